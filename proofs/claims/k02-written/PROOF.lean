import PyProof.Rows.All
import Wide.All
import OpenK.AllK
import Wide.FinOn
import HandS.ForMost
import HandS.ForExc
import HandS.IsInst
import HandS.Wide
import HandS.Flow
import HandS.Deep
import HandS.Zip
import HandS.HeadHook1
import HandS.Lambda
import HandS.Head0
import HandS.Head1
import HandS.Head2
import HandS.Words
import HandS.WordsExc
import HandS.HeadHook2
import HandS.HeadHook3
import HandS.HeadHook4
import KE.KTryMore
import KE.KIsAll
import HandS.Style
import HandS.TupAny
import HandS.Steps
import HandS.Walk
import HandS.NoneIn
import HandS.Defaults
import HandS.HeadEnd
import HandS.RevRange
import HandS.Zip0
import HandS.FStr
import HandS.More
import HandS.DictComp
import KE.KUnpackStar
import PyProof.MakeMany
import PyProof.FactsLen
import HandS.WordsDict
import HandS.Text
import HandS.Small
import PyProof.WalkInts
import HandS.TupSets
import HandS.SetTxt0
import HandS.SetFor
import HandS.MakeKwOnly
import HandS.Exc
import HandS.ExcOwn
import HandS.ExcIs
import PyProof.ExcBaseAll.RuntimeError
import KE.KDictList
import HandS.EndTab
import HandS.Conv
import HandS.RaiseMore
import KE.KxStill
import PySem.Challenge.RW_codemill_k02_written
set_option Elab.async false
set_option linter.all false
set_option maxRecDepth 100000
set_option maxHeartbeats 0
set_option autoImplicit false
namespace DL
open PySem PySem.Spec PyProof.Rows L2
abbrev D := PyData
abbrev En := List (Option D)
inductive Kd where
  | fz | ow | io | lk | li
  /-- the object whose attributes stand ahead of it -/
  | cell (o : Nat) (c : Str) (as : List Str)
  deriving DecidableEq
def Kd.own : Kd → Bool
  | .fz => false
  | .cell _ _ _ => false
  | _ => true
def Kd.pin : Kd → Bool
  | .io => true
  | .lk => true
  | .li => true
  | _ => false
def Kd.lock : Kd → Bool
  | .lk => true
  | .li => true
  | _ => false
theorem Kd.pin_of {k : Kd} (h : k.lock = true) : k.pin = true := by
  cases k <;> first | rfl | cases h
theorem Kd.own_of {k : Kd} (h : k.lock = true) : k.own = true := by
  cases k <;> first | rfl | cases h
inductive Ak where
  | fz | ow | br (i : Nat)
  deriving DecidableEq
def kD : Key → D
  | .inl i => .int i
  | .inr x => .str x
def KeysOk (as : List Str) (fs : List (Str × V)) : Prop := (fs.map (·.1)).Nodup ∧ ∀ f, f ∈ fs.map (·.1) → f ∈ as
def keysS (r : List (D × D)) : List Str := r.filterMap fun p => match p.1 with
  | .str s => some s
  | _ => none
def noOb : List (D × D) → Bool
  | (.none, _) :: _ => false
  | _ => true
def qU : Str := "Units.__init__.<locals>.<lambda>"
def ObO (a : Addr) (o : Obj) : HO := .ext fun h => h.get? a = some o
def tabO (o : Obj) : Option Addr := match o with
  | ⟨.type "code", _, .fields vs, _⟩ => (match (vs[1]? : Option Value), (vs[11]? : Option Value) with
    | some (.str q _), some (.ref P) => if q = ("Units.__init__" : Str) then some P else none
    | _, _ => none)
  | _ => none
def tabsOf (K : PySem.W.Frag) : List Addr := K.filterMap fun p => tabO p.2
def lamIn : Stmt → Option (Arguments × Expr × Scope)
  | .If (.BoolOp _ (.UnaryOp _ (.Call _ [_, .Lambda ps b sc _] _ _) _ :: _) _) _ _ _ => some (ps, b, sc)
  | .If (.UnaryOp _ (.Call _ [_, .Lambda ps b sc _] _ _) _) _ _ _ => some (ps, b, sc)
  | _ => none
def initO (o : Obj) : Option (List Stmt) := match o.data with
  | .func fd => if fd.qualname = ("Units.__init__" : Str) then (match fd.body with
    | .stmts b => some b
    | _ => none) else none
  | _ => none
def lamOf (K : PySem.W.Frag) (n : Nat) : Option (Arguments × Expr × Scope) := ((K.lookup (He.ma K (He.ga K "Units") "__init__")).bind initO).bind fun b => (b.filterMap lamIn)[n]?
def fnName (n : Int) : Str := if n = -1 then "is_name" else "is_line"
def FnR (K : PySem.W.Frag) (F : Hp) (n : Int) (f : Addr) (cl : List (Str × Addr)) : Prop :=
  (0 ≤ n ∧ ∃ ps b sc pm c' ctv, lamOf K n.toNat = some (ps, b, sc) ∧ F f = some (ObO f (PySem.W.kla_obj "<lambda>" qU ps b sc cl pm c' ctv)) ∧ F c' = some (LamX.CodeO c' qU) ∧ ∀ x y c, cl.lookup x = some c → cl.lookup y = some c → x = y) ∨
  (n < 0 ∧ cl = [] ∧ f = He.ga K (fnName n))
theorem FnR.mono {K : PySem.W.Frag} {F F' : Hp} (e : Same F F') {n : Int} {f : Addr} {cl : List (Str × Addr)} (h : FnR K F n f cl) : FnR K F' n f cl := by
  rcases h with ⟨h0, ps, b, sc, pm, c', ctv, h1, h2, h3, h4⟩ | h
  · exact .inl ⟨h0, ps, b, sc, pm, c', ctv, h1, e _ _ h2, e _ _ h3, h4⟩
  · exact .inr h
def KH (o : HO) (x : Option HO) : Prop := match o with
  | .tbl _ => ∃ ps, x = some (.tbl ps)
  | o => x = some o
theorem KH.of {o : HO} {x : Option HO} (h : x = some o) : KH o x := by
  cases o <;> first | exact h | exact ⟨_, h⟩
theorem KH.ex {o : HO} {x : Option HO} (h : KH o x) : ∃ o', x = some o' := by
  cases o <;> first | exact ⟨_, h⟩ | (obtain ⟨ps, h⟩ := h; exact ⟨_, h⟩)
theorem KH.nn {o : HO} {x : Option HO} (h : KH o x) : x ≠ none := by
  obtain ⟨o', e⟩ := h.ex
  rw [e]
  exact fun z => by cases z
theorem KH.trans {o : HO} {x y : Option HO} (h : KH o x) (g : ∀ o', x = some o' → KH o' y) : KH o y := by
  cases o <;> first | exact g _ h | (obtain ⟨ps, h⟩ := h; have z : KH (.tbl ps) y := g _ h; exact z)
theorem KH.nt {o : HO} {x : Option HO} (n : (∀ ps, o ≠ .tbl ps) ∧ ∀ φ, o ≠ .ext φ) (h : KH o x) : x = some o := by
  cases o <;> first | exact h | exact (n.1 _ rfl).elim
structure SameK (H H' : Hp) : Prop where
  kh : ∀ b o, H b = some o → KH o (H' b)
  tb : ∀ P, LamX.TabS H P qU → LamX.TabS H' P qU
theorem SameK.of {H H' : Hp} (h : Same H H') : SameK H H' := ⟨fun b o e => .of (h b o e), fun _ t => t.ext h⟩
theorem SameK.refl (H : Hp) : SameK H H := .of (.refl _)
theorem SameK.trans {H H1 H2 : Hp} (a : SameK H H1) (b : SameK H1 H2) : SameK H H2 := ⟨fun c o e => (a.kh c o e).trans fun o' z => b.kh c o' z, fun P t => b.tb P (a.tb P t)⟩
mutual
def Rp (K : PySem.W.Frag) (F : Hp) : D → V → Prop
  | .none, v => v = .non
  | .bool b, v => v = .bl b
  | .int i, v => v = .int i
  | .str x, v => v = .str x
  | .list ds, v => ∃ a xs, v = .ref a ∧ SqL K F a xs ∧ RpA K F ds xs
  | .tuple ds, v => ∃ a xs, v = .ref a ∧ SqT K F a xs ∧ RpA K F ds xs
  | .dict kvs, v => (∃ a vs, v = .ref a ∧ Rd F a (.dK vs) ∧ RpD K F kvs vs) ∨ RpO K F kvs v
def RpO (K : PySem.W.Frag) (F : Hp) : List (D × D) → V → Prop
  | [], _ => False
  | (k, d) :: r, v => k = .none ∧ ((∃ c x dx fs, d = .str c ∧ v = .ref x ∧ F x = some (.ins (He.ga K c) dx fs) ∧ RpF K F r fs ∧ KeysOk (keysS r) fs) ∨
    ∃ n f cl, d = .int n ∧ v = .ref f ∧ FnR K F n f cl ∧ RpC K F r cl)
def RpC (K : PySem.W.Frag) (F : Hp) : List (D × D) → List (Str × Addr) → Prop
  | [], cl => cl = []
  | (k, d) :: r, cl => ∃ y c o u v cr, cl = (y, c) :: cr ∧ k = .str y ∧ F c = some (ObO c o) ∧ o.data = .cell (some u) ∧ RelV v u ∧ Rp K F d v ∧ RpC K F r cr
def RpF (K : PySem.W.Frag) (F : Hp) : List (D × D) → List (Str × V) → Prop
  | [], _ => True
  | (k, d) :: r, fs => (∃ s v, k = .str s ∧ fs.lookup s = some v ∧ Rp K F d v) ∧ RpF K F r fs
def RpA (K : PySem.W.Frag) (F : Hp) : List D → List V → Prop
  | [], xs => xs = []
  | d :: ds, xs => ∃ v vs, xs = v :: vs ∧ Rp K F d v ∧ RpA K F ds vs
def RpD (K : PySem.W.Frag) (F : Hp) : List (D × D) → List (Key × V) → Prop
  | [], vs => vs = []
  | (k, d) :: r, vs => ∃ q v vr, vs = (q, v) :: vr ∧ k = kD q ∧ Rp K F d v ∧ RpD K F r vr
end
theorem same_rd {F F' : Hp} (e : Same F F') {a : Addr} {o : HO} (h : Rd F a o) : Rd F' a o := by
  rcases h with h | ⟨u, h⟩
  · exact .inl (e _ _ h)
  · exact .inr ⟨u, e _ _ h⟩
theorem same_sqt {K : PySem.W.Frag} {F F' : Hp} (e : Same F F') {a : Addr} {xs : List V} (h : SqT K F a xs) : SqT K F' a xs := by
  rcases h with h | h
  · exact .inl (same_rd e h)
  · exact .inr h
mutual
theorem Rp.mono {K : PySem.W.Frag} {F F' : Hp} (e : Same F F') : ∀ (d : D) (v : V), Rp K F d v → Rp K F' d v
  | .none, _, h => h
  | .bool _, _, h => h
  | .int _, _, h => h
  | .str _, _, h => h
  | .list ds, _, h => by
    obtain ⟨a, xs, h1, h2, h3⟩ := h
    exact ⟨a, xs, h1, e.seq h2, RpA.mono e ds xs h3⟩
  | .tuple ds, _, h => by
    obtain ⟨a, xs, h1, h2, h3⟩ := h
    exact ⟨a, xs, h1, same_sqt e h2, RpA.mono e ds xs h3⟩
  | .dict kvs, v, h => by
    rcases h with ⟨a, vs, h1, h2, h3⟩ | h
    · exact .inl ⟨a, vs, h1, same_rd e h2, RpD.mono e kvs vs h3⟩
    · exact .inr (RpO.mono e kvs v h)
theorem RpO.mono {K : PySem.W.Frag} {F F' : Hp} (e : Same F F') : ∀ (r : List (D × D)) (v : V), RpO K F r v → RpO K F' r v
  | [], _, h => h
  | (k, d) :: r, v, h => by
    obtain ⟨h0, ⟨c, x, dx, fs, h1, h2, h3, h5, h6⟩ | ⟨n, f, cl, h1, h2, h3, h4⟩⟩ := h
    · exact ⟨h0, .inl ⟨c, x, dx, fs, h1, h2, e _ _ h3, RpF.mono e r fs h5, h6⟩⟩
    · exact ⟨h0, .inr ⟨n, f, cl, h1, h2, h3.mono e, RpC.mono e r cl h4⟩⟩
theorem RpC.mono {K : PySem.W.Frag} {F F' : Hp} (e : Same F F') : ∀ (r : List (D × D)) (cl : List (Str × Addr)), RpC K F r cl → RpC K F' r cl
  | [], _, h => h
  | (k, d) :: r, cl, h => by
    obtain ⟨y, c, o, u, v, cr, h1, h2, h3, h4, h5, h6, h7⟩ := h
    exact ⟨y, c, o, u, v, cr, h1, h2, e _ _ h3, h4, h5, Rp.mono e d v h6, RpC.mono e r cr h7⟩
theorem RpF.mono {K : PySem.W.Frag} {F F' : Hp} (e : Same F F') : ∀ (r : List (D × D)) (fs : List (Str × V)), RpF K F r fs → RpF K F' r fs
  | [], _, h => h
  | (k, d) :: r, fs, h => by
    obtain ⟨⟨s, v, h1, h2, h3⟩, h4⟩ := h
    exact ⟨⟨s, v, h1, h2, Rp.mono e d v h3⟩, RpF.mono e r fs h4⟩
theorem RpA.mono {K : PySem.W.Frag} {F F' : Hp} (e : Same F F') : ∀ (ds : List D) (vs : List V), RpA K F ds vs → RpA K F' ds vs
  | [], _, h => h
  | d :: ds, _, h => by
    obtain ⟨v, vs, h1, h2, h3⟩ := h
    exact ⟨v, vs, h1, Rp.mono e d v h2, RpA.mono e ds vs h3⟩
theorem RpD.mono {K : PySem.W.Frag} {F F' : Hp} (e : Same F F') : ∀ (ds : List (D × D)) (vs : List (Key × V)), RpD K F ds vs → RpD K F' ds vs
  | [], _, h => h
  | (k, d) :: r, _, h => by
    obtain ⟨q, v, vr, h1, h2, h3, h4⟩ := h
    exact ⟨q, v, vr, h1, h2, Rp.mono e d v h3, RpD.mono e r vr h4⟩
end
theorem RpO.ob {K : PySem.W.Frag} {F : Hp} {r : List (D × D)} {v : V} (h : RpO K F r v) : noOb r = false := by
  cases r with
  | nil => cases h
  | cons p r =>
    obtain ⟨k, d⟩ := p
    obtain ⟨h0, _⟩ := h
    subst h0
    rfl
def gob {α : Type} (kvs : List (D × D)) (o : Option α) : Option α := match noOb kvs with
  | true => o
  | false => none
theorem gob_some {α : Type} {kvs : List (D × D)} {o : Option α} {z : α} (h : gob kvs o = some z) : noOb kvs = true ∧ o = some z := by
  unfold gob at h
  split at h
  · rename_i e
    exact ⟨e, h⟩
  · cases h
theorem gob_ok {α : Type} {kvs : List (D × D)} {o : Option α} (h : noOb kvs = true) : gob kvs o = o := by
  unfold gob
  rw [h]
theorem noRpO {K : PySem.W.Frag} {F : Hp} {r : List (D × D)} {v : V} {P : Prop} (n : noOb r = true) (h : P ∨ RpO K F r v) : P := h.resolve_right fun z => by
  rw [z.ob] at n
  cases n
theorem RpO.ref {K : PySem.W.Frag} {F : Hp} {r : List (D × D)} {v : V} (h : RpO K F r v) : ∃ a, v = .ref a := by
  cases r with
  | nil => cases h
  | cons p r =>
    obtain ⟨k, d⟩ := p
    obtain ⟨_, ⟨c, x, dx, fs, _, h2, _⟩ | ⟨n, f, cl, _, h2, _⟩⟩ := h
    · exact ⟨x, h2⟩
    · exact ⟨f, h2⟩
section
variable {K : PySem.W.Frag} {F : Hp}
theorem RpA.length : ∀ {ds : List D} {vs : List V}, RpA K F ds vs → vs.length = ds.length
  | [], _, h => by
    have h : _ = [] := h
    rw [h]
    rfl
  | d :: ds, _, h => by
    obtain ⟨v, vs, h1, h2, h3⟩ := h
    rw [h1, List.length_cons, List.length_cons, RpA.length h3]
theorem RpA.nil : RpA K F [] [] := rfl
theorem RpA.cons {d : D} {v : V} {ds : List D} {vs : List V} (h : Rp K F d v) (t : RpA K F ds vs) : RpA K F (d :: ds) (v :: vs) := ⟨v, vs, rfl, h, t⟩
theorem RpA.append : ∀ {ds es : List D} {vs us : List V}, RpA K F ds vs → RpA K F es us → RpA K F (ds ++ es) (vs ++ us)
  | [], es, vs, us, h, g => by
    have h : vs = [] := h
    rw [h]
    exact g
  | d :: ds, es, _, us, h, g => by
    obtain ⟨v, vs, h1, h2, h3⟩ := h
    rw [h1]
    exact .cons h2 (RpA.append h3 g)
theorem RpA.get : ∀ {ds : List D} {vs : List V} {i : Nat} {d : D}, RpA K F ds vs → ds[i]? = some d → ∃ v, vs[i]? = some v ∧ Rp K F d v
  | [], _, _, _, _, e => by simp at e
  | d :: ds, _, 0, d', h, e => by
    obtain ⟨v, vs, h1, h2, h3⟩ := h
    have e : d = d' := by simpa using e
    subst e h1
    exact ⟨v, rfl, h2⟩
  | d :: ds, _, i + 1, d', h, e => by
    obtain ⟨v, vs, h1, h2, h3⟩ := h
    subst h1
    obtain ⟨u, q1, q2⟩ := RpA.get (i := i) (d := d') h3 (by simpa using e)
    exact ⟨u, by simpa using q1, q2⟩
theorem RpA.getV {ds : List D} {vs : List V} {i : Nat} {v : V} (h : RpA K F ds vs) (e : vs[i]? = some v) : ∃ d, ds[i]? = some d ∧ Rp K F d v := by
  have hl := h.length
  have hi : i < ds.length := by
    have := (List.getElem?_eq_some_iff.mp e).1
    omega
  obtain ⟨u, q1, q2⟩ := h.get (List.getElem?_eq_getElem hi)
  rw [e] at q1
  cases q1
  exact ⟨_, List.getElem?_eq_getElem hi, q2⟩
theorem RpA.set {d : D} {v : V} (g : Rp K F d v) : ∀ {ds : List D} {vs : List V} (i : Nat), RpA K F ds vs → RpA K F (ds.set i d) (vs.set i v)
  | [], vs, i, h => by
    have h : vs = [] := h
    rw [h]
    exact rfl
  | _ :: ds, _, 0, h => by
    obtain ⟨v, vs, h1, h2, h3⟩ := h
    rw [h1]
    exact .cons g h3
  | _ :: ds, _, i + 1, h => by
    obtain ⟨v, vs, h1, h2, h3⟩ := h
    rw [h1]
    exact .cons h2 (RpA.set g i h3)
theorem RpA.take : ∀ {ds : List D} {vs : List V} (n : Nat), RpA K F ds vs → RpA K F (ds.take n) (vs.take n)
  | [], vs, n, h => by
    have h : vs = [] := h
    rw [h, List.take_nil, List.take_nil]
    exact rfl
  | d :: ds, _, 0, h => by
    rw [List.take_zero, List.take_zero]
    exact rfl
  | d :: ds, _, n + 1, h => by
    obtain ⟨v, vs, h1, h2, h3⟩ := h
    rw [h1]
    exact .cons h2 (RpA.take n h3)
theorem RpA.drop : ∀ {ds : List D} {vs : List V} (n : Nat), RpA K F ds vs → RpA K F (ds.drop n) (vs.drop n)
  | [], vs, n, h => by
    have h : vs = [] := h
    rw [h, List.drop_nil, List.drop_nil]
    exact rfl
  | d :: ds, _, 0, h => h
  | d :: ds, _, n + 1, h => by
    obtain ⟨v, vs, h1, h2, h3⟩ := h
    rw [h1]
    exact RpA.drop n h3
theorem RpA.reverse : ∀ {ds : List D} {vs : List V}, RpA K F ds vs → RpA K F ds.reverse vs.reverse
  | [], vs, h => by
    have h : vs = [] := h
    rw [h]
    exact rfl
  | d :: ds, _, h => by
    obtain ⟨v, vs, h1, h2, h3⟩ := h
    rw [h1, List.reverse_cons, List.reverse_cons]
    exact (RpA.reverse h3).append (.cons h2 .nil)
theorem RpA.one {d : D} {vs : List V} (h : RpA K F [d] vs) : ∃ v, vs = [v] ∧ Rp K F d v := by
  obtain ⟨v, vs, h1, h2, h3⟩ := h
  have h3 : vs = [] := h3
  rw [h3] at h1
  exact ⟨v, h1, h2⟩
theorem RpA.two {d e : D} {vs : List V} (h : RpA K F [d, e] vs) : ∃ v u, vs = [v, u] ∧ Rp K F d v ∧ Rp K F e u := by
  obtain ⟨v, vs, h1, h2, h3⟩ := h
  obtain ⟨u, rfl, h4⟩ := h3.one
  exact ⟨v, u, h1, h2, h4⟩
end
def OwnC (K : PySem.W.Frag) (F : Hp) (o : HO) : D → Prop
  | .list ds => ∃ xs, o = .lst xs ∧ RpA K F ds xs
  | .dict kvs => ∃ vs, o = .dK vs ∧ RpD K F kvs vs
  | _ => False
def OwnO (K : PySem.W.Frag) (F H : Hp) (p : Addr) (d : D) : Prop := ∃ o, H p = some o ∧ OwnC K F o d
theorem OwnC.mono {K : PySem.W.Frag} {F F' : Hp} (e : Same F F') {o : HO} : ∀ {d : D}, OwnC K F o d → OwnC K F' o d
  | .none, h => h
  | .bool _, h => h
  | .int _, h => h
  | .str _, h => h
  | .tuple _, h => h
  | .list ds, ⟨xs, h1, h2⟩ => ⟨xs, h1, h2.mono e⟩
  | .dict kvs, ⟨xs, h1, h2⟩ => ⟨xs, h1, h2.mono e⟩
theorem OwnC.kh {K : PySem.W.Frag} {F : Hp} {o : HO} {x : Option HO} : ∀ {d : D}, OwnC K F o d → KH o x → x = some o
  | .none, h, _ => h.elim
  | .bool _, h, _ => h.elim
  | .int _, h, _ => h.elim
  | .str _, h, _ => h.elim
  | .tuple _, h, _ => h.elim
  | .list ds, ⟨xs, h1, h2⟩, g => by
    subst h1
    exact g
  | .dict kvs, ⟨xs, h1, h2⟩, g => by
    subst h1
    exact g
theorem OwnC.nt {K : PySem.W.Frag} {F : Hp} {o : HO} : ∀ {d : D}, OwnC K F o d → (∀ ps, o ≠ .tbl ps) ∧ ∀ φ, o ≠ .ext φ
  | .none, h => h.elim
  | .bool _, h => h.elim
  | .int _, h => h.elim
  | .str _, h => h.elim
  | .tuple _, h => h.elim
  | .list ds, ⟨xs, h1, h2⟩ => by
    subst h1
    exact ⟨fun _ z => (by cases z), fun _ z => (by cases z)⟩
  | .dict kvs, ⟨xs, h1, h2⟩ => by
    subst h1
    exact ⟨fun _ z => (by cases z), fun _ z => (by cases z)⟩
theorem OwnO.mono {K : PySem.W.Frag} {F F' H H' : Hp} {p : Addr} {d : D} (e : Same F F') (h : OwnO K F H p d) (k : ∀ o, H p = some o → H' p = some o) : OwnO K F' H' p d := by
  obtain ⟨o, h1, h2⟩ := h
  exact ⟨o, k o h1, h2.mono e⟩
theorem OwnC.rp {K : PySem.W.Frag} {F : Hp} {p : Addr} {o : HO} (hp : F p = some o) : ∀ {d : D}, OwnC K F o d → Rp K F d (.ref p)
  | .none, h => h.elim
  | .bool _, h => h.elim
  | .int _, h => h.elim
  | .str _, h => h.elim
  | .tuple _, h => h.elim
  | .list ds, ⟨xs, h1, h2⟩ => ⟨p, xs, rfl, .inl (.inl (by rw [hp, h1])), h2⟩
  | .dict kvs, ⟨xs, h1, h2⟩ => .inl ⟨p, xs, rfl, .inl (by rw [hp, h1]), h2⟩
structure Wd where
  F : Hp
  H : Hp
  σ : L2.St
  ρ : En
def ats (O : List Kd) : List Str := match O.getLast? with
  | some (.cell _ _ as) => as
  | _ => []
def hasO (O : List Kd) : Bool := match O.getLast? with
  | some (.cell _ _ _) => true
  | _ => false
def nl (O : List Kd) : Nat := if hasO O = true then O.length - (ats O).length - 1 else O.length
def attrs (H : Hp) (p : Addr) : List (Str × V) := match H p with
  | some (.ins _ _ fs) => fs
  | _ => []
def oi (O : List Kd) : Nat := match O.getLast? with
  | some (.cell o _ _) => o
  | _ => 0
def cn (O : List Kd) : Str := match O.getLast? with
  | some (.cell _ c _) => c
  | _ => Str.empty
def ob (O : List Kd) (σ : L2.St) : Addr := match σ[oi O]? with
  | some (some (V.ref p)) => p
  | _ => (0 : Nat)
def sv (O : List Kd) (H : Hp) (σ : L2.St) (i : Nat) : Option (Option V) := if i < nl O then σ[i]? else match (ats O)[i - nl O]? with
  | some a => some ((attrs H (ob O σ)).lookup a)
  | none => none
abbrev Wd.sv (w : Wd) (O : List Kd) (i : Nat) : Option (Option V) := DL.sv O w.H w.σ i
theorem sv_loc {O : List Kd} {H : Hp} {σ : L2.St} {i : Nat} (h : i < nl O) : sv O H σ i = σ[i]? := if_pos h
def OwnAt (O : List Kd) (w : Wd) (i : Nat) (p : Addr) : Prop := ∃ (k : Kd) (d : D), O[i]? = some k ∧ k.own = true ∧ w.ρ[i]? = some (some d) ∧ w.sv O i = some (some (.ref p))
def Fp (O : List Kd) (w : Wd) (p : Addr) : Prop := ∃ i, OwnAt O w i p
structure ObOk (K : PySem.W.Frag) (O : List Kd) (w : Wd) : Prop where
  at0 : w.σ[oi O]? = some (some (.ref (ob O w.σ)))
  n0 : oi O < nl O
  ex : ∃ C dx fs, w.H (ob O w.σ) = some (.ins C dx fs) ∧ w.H dx = some (.own (ob O w.σ))
  fr : w.F (ob O w.σ) = none
  nf : ¬ Fp O w (ob O w.σ)
  cls : ∀ C dx fs, w.H (ob O w.σ) = some (.ins C dx fs) → C = He.ga K (cn O) ∧ KeysOk (ats O) fs
structure Ok (K : PySem.W.Frag) (O : List Kd) (w : Wd) : Prop where
  sub : Same w.F w.H
  ls : w.σ.length = nl O
  lr : w.ρ.length = O.length
  fz : ∀ (i : Nat) (d : D), O[i]? = some Kd.fz → w.ρ[i]? = some (some d) → ∃ v : V, w.sv O i = some (some v) ∧ Rp K w.F d v
  ow : ∀ (i : Nat) (k : Kd) (d : D), O[i]? = some k → k.own = true → w.ρ[i]? = some (some d) → ∃ p : Addr, w.sv O i = some (some (.ref p)) ∧ w.F p = none ∧ OwnO K w.F w.H p d
  ap : ∀ i j p, OwnAt O w i p → OwnAt O w j p → i = j
  obj : hasO O = true → ObOk K O w
  tb : ∀ P, P ∈ tabsOf K → LamX.TabS w.H P qU ∧ w.F P = none
structure StpS (O : List Kd) (w w' : Wd) : Prop where
  ex : Same w.F w'.F
  kp : ∀ b o, w.H b = some o → ¬ Fp O w b → (hasO O = true → b ≠ ob O w.σ) → KH o (w'.H b)
  nw : ∀ b o, w.H b = some o → ¬ Fp O w b → w.F b = none → w'.F b = none
  fp : ∀ b, Fp O w' b → Fp O w b ∨ w.H b = none
  pn : ∀ (i : Nat) (k : Kd), O[i]? = some k → k.pin = true → w'.sv O i = w.sv O i
  lk : ∀ (i : Nat) (k : Kd), O[i]? = some k → k.lock = true → w'.ρ[i]? = w.ρ[i]?
  lo : ∀ (i : Nat) (k : Kd) (p : Addr) (d : D), O[i]? = some k → k.lock = true → w.ρ[i]? = some (some d) → w.sv O i = some (some (.ref p)) → w'.H p = w.H p
  o0 : hasO O = true → ob O w'.σ = ob O w.σ ∧ (w.H (ob O w.σ) ≠ none → w'.H (ob O w.σ) ≠ none)
  tb : ∀ P, LamX.TabS w.H P qU → LamX.TabS w'.H P qU
structure Stp (O : List Kd) (w w' : Wd) : Prop extends StpS O w w' where
  ost : hasO O = true → w'.H (ob O w.σ) = w.H (ob O w.σ)
instance {O : List Kd} {w w' : Wd} : Coe (Stp O w w') (StpS O w w') := ⟨Stp.toStpS⟩
def Rs (K : PySem.W.Frag) (O : List Kd) (w w' : Wd) (k : Ak) (d : D) (v : V) : Prop := match k with
  | .fz => Rp K w'.F d v
  | .ow => ∃ p : Addr, v = .ref p ∧ w'.F p = none ∧ OwnO K w'.F w'.H p d ∧ ¬ Fp O w' p ∧ (Fp O w p ∨ w.H p = none) ∧ (hasO O = true → p ≠ ob O w'.σ)
  | .br i => w'.sv O i = some (some v) ∧ ∃ q : Kd, O[i]? = some q ∧ q.own = true
section
variable {K : PySem.W.Frag} {O : List Kd} {w w1 w2 : Wd}
theorem Ok.ownF (ok : Ok K O w) {p : Addr} (h : Fp O w p) : w.F p = none ∧ ∃ o, w.H p = some o := by
  obtain ⟨i, k, d, h1, h2, h3, h4⟩ := h
  obtain ⟨q, e1, e2, o, e3, e4⟩ := ok.ow i k d h1 h2 h3
  rw [h4] at e1
  cases e1
  exact ⟨e2, o, e3⟩
theorem Ok.ownN (ok : Ok K O w) {p : Addr} (h : Fp O w p) : ∃ o, w.H p = some o ∧ ((∀ ps, o ≠ .tbl ps) ∧ ∀ φ, o ≠ .ext φ) := by
  obtain ⟨i, k, d, h1, h2, h3, h4⟩ := h
  obtain ⟨q, e1, e2, o, e3, e4⟩ := ok.ow i k d h1 h2 h3
  rw [h4] at e1
  cases e1
  exact ⟨o, e3, e4.nt⟩
theorem Stp.refl (O : List Kd) (w : Wd) : Stp O w w := ⟨⟨Same.refl _, fun _ _ h _ _ => .of h, fun _ _ _ _ h => h, fun _ h => .inl h, fun _ _ _ _ => rfl, fun _ _ _ _ => rfl, fun _ _ _ _ _ _ _ _ => rfl, fun _ => ⟨rfl, id⟩, fun _ h => h⟩, fun _ => rfl⟩
theorem StpS.refl (O : List Kd) (w : Wd) : StpS O w w := (Stp.refl O w).toStpS
theorem Stp.kp' (a : Stp O w w1) {b : Addr} {o : HO} (h : w.H b = some o) (z : ¬ Fp O w b) : KH o (w1.H b) := by
  by_cases e : hasO O = true ∧ b = ob O w.σ
  · obtain ⟨e1, e2⟩ := e
    subst e2
    rw [a.ost e1]
    exact .of h
  · exact a.kp b o h z fun e1 e2 => e ⟨e1, e2⟩
theorem StpS.back (a : StpS O w w1) {b : Addr} (h : w1.H b = none) : Fp O w b ∨ w.H b = none := by
  cases e : w.H b with
  | none => exact .inr rfl
  | some o =>
    refine .inl (Classical.byContradiction fun z => ?_)
    by_cases e2 : hasO O = true ∧ b = ob O w.σ
    · obtain ⟨e1, e2⟩ := e2
      subst e2
      exact (a.o0 e1).2 (by rw [e]; exact fun z => by cases z) h
    · exact ((a.kp b o e z fun e1 e3 => e2 ⟨e1, e3⟩).nn h).elim
theorem StpS.nofp (a : StpS O w w1) {b : Addr} {o : HO} (h : w.H b = some o) (z : ¬ Fp O w b) : ¬ Fp O w1 b := fun q => by
  rcases a.fp b q with q | q
  · exact z q
  · rw [h] at q
    cases q
theorem StpS.trans (a : StpS O w w1) (b : StpS O w1 w2) : StpS O w w2 where
  ex := a.ex.trans b.ex
  kp := fun c o h z y => (a.kp c o h z y).trans fun o' h' => b.kp c o' h' (a.nofp h z) fun e => by rw [(a.o0 e).1]; exact y e
  nw := fun c o h z f => by
    have f1 := a.nw c o h z f
    cases e : w1.H c with
    | none =>
      exact (Classical.byContradiction fun y => by
        rcases a.back e with q | q
        · exact z q
        · rw [h] at q
          cases q)
    | some o1 => exact b.nw c o1 e (a.nofp h z) f1
  fp := fun c h => by
    rcases b.fp c h with h | h
    · exact a.fp c h
    · exact a.back h
  pn := fun i k h1 h2 => (b.pn i k h1 h2).trans (a.pn i k h1 h2)
  lk := fun i k h1 h2 => (b.lk i k h1 h2).trans (a.lk i k h1 h2)
  lo := fun i k p d h1 h2 h3 h4 => (b.lo i k p d h1 h2 ((a.lk i k h1 h2).trans h3) ((a.pn i k h1 (Kd.pin_of h2)).trans h4)).trans (a.lo i k p d h1 h2 h3 h4)
  o0 := fun e => by
    obtain ⟨a1, a2⟩ := a.o0 e
    obtain ⟨b1, b2⟩ := b.o0 e
    rw [a1] at b1 b2
    exact ⟨b1, fun z => b2 (a2 z)⟩
  tb := fun P h => b.tb P (a.tb P h)
theorem Stp.trans (a : Stp O w w1) (b : Stp O w1 w2) : Stp O w w2 := ⟨a.toStpS.trans b.toStpS, fun e => by
  have z := b.ost e
  rw [(a.o0 e).1] at z
  exact z.trans (a.ost e)⟩
theorem Stp.back (a : Stp O w w1) {b : Addr} (h : w1.H b = none) : Fp O w b ∨ w.H b = none := a.toStpS.back h
theorem Stp.nofp (a : Stp O w w1) {b : Addr} {o : HO} (h : w.H b = some o) (z : ¬ Fp O w b) : ¬ Fp O w1 b := a.toStpS.nofp h z
theorem sv_same {H H' : Hp} {σ : L2.St} {i : Nat} (h : hasO O = true → H' (ob O σ) = H (ob O σ)) : sv O H' σ i = sv O H σ i := by
  unfold sv
  split
  · rfl
  · rename_i z
    cases e : hasO O with
    | false =>
      have : ats O = [] := by
        unfold hasO at e
        unfold ats
        split at e
        · cases e
        · first
            | rfl
            | (rename_i y
               split
               · rename_i _ _ as e2
                 exact (y _ _ as e2).elim
               · rfl)
      rw [this]
      rfl
    | true =>
      unfold attrs
      rw [h e]
theorem own_same {F F' H H' : Hp} {σ : L2.St} {ρ : En} {i : Nat} {b : Addr} (h : hasO O = true → H' (ob O σ) = H (ob O σ)) : OwnAt O ⟨F', H', σ, ρ⟩ i b ↔ OwnAt O ⟨F, H, σ, ρ⟩ i b := by
  show (∃ k d, _ ∧ _ ∧ _ ∧ sv O H' σ i = _) ↔ ∃ k d, _ ∧ _ ∧ _ ∧ sv O H σ i = _
  rw [sv_same h]
theorem fp_same {F F' H H' : Hp} {σ : L2.St} {ρ : En} {b : Addr} (h : hasO O = true → H' (ob O σ) = H (ob O σ)) : Fp O ⟨F', H', σ, ρ⟩ b ↔ Fp O ⟨F, H, σ, ρ⟩ b :=
  ⟨fun ⟨i, z⟩ => ⟨i, (own_same h).mp z⟩, fun ⟨i, z⟩ => ⟨i, (own_same h).mpr z⟩⟩
theorem ob_set {σ : L2.St} {i : Nat} {x : Option V} (h : i ≠ oi O) : ob O (σ.set i x) = ob O σ := by
  unfold ob
  rw [List.getElem?_set_ne h]
theorem no_ats (h : hasO O = false) : ats O = [] := by
  unfold hasO at h
  unfold ats
  split at h
  · cases h
  · first
      | rfl
      | (rename_i y
         split
         · rename_i _ _ as e2
           exact (y _ _ as e2).elim
         · rfl)
theorem sv_ob {H : Hp} {σ σ' : L2.St} {j : Nat} (h : hasO O = false ∨ ob O σ' = ob O σ) (hj : ¬ j < nl O) : sv O H σ' j = sv O H σ j := by
  unfold sv
  rw [if_neg hj, if_neg hj]
  rcases h with h | h
  · rw [no_ats h]
    rfl
  · rw [h]
theorem sv_set_ne {H : Hp} {σ : L2.St} {i j : Nat} {x : Option V} (h0 : hasO O = false ∨ i ≠ oi O) (e : i ≠ j) : sv O H (σ.set i x) j = sv O H σ j := by
  by_cases hj : j < nl O
  · rw [sv_loc hj, sv_loc hj, List.getElem?_set_ne e]
  · exact sv_ob (h0.imp id ob_set) hj
theorem sv_set_eq {H : Hp} {σ : L2.St} {i : Nat} {x : Option V} (hl : i < nl O) (hi : i < σ.length) : sv O H (σ.set i x) i = some x := by
  rw [sv_loc hl, List.getElem?_set_self hi]
theorem Rs.step {k : Ak} {d : D} {v : V} (h : Rs K O w w1 k d v) (b : Stp O w1 w2) (hs : w2.σ = w1.σ) : Rs K O w w2 k d v := by
  cases k with
  | fz => exact Rp.mono b.ex _ _ h
  | ow =>
    obtain ⟨p, e, h1, h2, h3, h4, h5⟩ := h
    obtain ⟨o, e1, e2⟩ := h2
    exact ⟨p, e, b.nw p o e1 h3 h1, ⟨o, e2.kh (b.kp' e1 h3), e2.mono b.ex⟩, b.nofp e1 h3, h4, fun z => by rw [hs]; exact h5 z⟩
  | br i =>
    obtain ⟨h1, h2⟩ := h
    refine ⟨?_, h2⟩
    show sv O w2.H w2.σ i = _
    rw [hs, sv_same (H := w1.H) b.ost]
    exact h1
theorem Rs.pre {k : Ak} {d : D} {v : V} (a : StpS O w w1) (h : Rs K O w1 w2 k d v) : Rs K O w w2 k d v := by
  cases k with
  | fz => exact h
  | ow =>
    obtain ⟨p, e, h1, h2, h3, h4, h5⟩ := h
    refine ⟨p, e, h1, h2, h3, ?_, h5⟩
    rcases h4 with h4 | h4
    · exact a.fp p h4
    · exact a.back h4
  | br i => exact h
structure Pur (F H F' H' : Hp) : Prop where
  ex : Same F F'
  hh : SameK H H'
  sub : Same F' H'
  nw : ∀ b o, H b = some o → F b = none → F' b = none
theorem Pur.refl {F H : Hp} (s : Same F H) : Pur F H F H := ⟨.refl _, .refl _, s, fun _ _ _ h => h⟩
theorem ok_tb {F H F' H' : Hp} (p : Pur F H F' H') {P : Addr} (h : LamX.TabS H P qU ∧ F P = none) : LamX.TabS H' P qU ∧ F' P = none := by
  obtain ⟨h1, h2⟩ := h
  obtain ⟨ps, h3, _⟩ := id h1
  exact ⟨p.hh.tb P h1, p.nw P _ h3 h2⟩
theorem ok_tb1 {F Fc H : Hp} {P p : Addr} {o : HO} {d : D} (h : LamX.TabS H P qU ∧ F P = none) (hp : H p = some o) (c : OwnC K Fc o d) : LamX.TabS H P qU ∧ upd F p o P = none := by
  obtain ⟨h1, h2⟩ := h
  obtain ⟨ps, h3, _⟩ := id h1
  refine ⟨h1, ?_⟩
  rw [upd_ne fun z => ?_]
  · exact h2
  · rw [z, hp] at h3
    cases h3
    cases d <;> first | exact c.elim | (obtain ⟨_, z, _⟩ := c; cases z)
theorem tab_put {H : Hp} {P p : Addr} {o o' : HO} (hp : H p = some o') (n : (∀ ps, o' ≠ .tbl ps) ∧ ∀ φ, o' ≠ .ext φ) (h : LamX.TabS H P qU) : LamX.TabS (upd H p o) P qU := by
  obtain ⟨ps, h1, h2, h3⟩ := h
  refine ⟨ps, ?_, h2, fun pos cv e => ?_⟩
  · rw [upd_ne fun z => ?_]
    · exact h1
    · rw [z, hp] at h1
      exact n.1 _ (Option.some.inj h1)
  · obtain ⟨c, e1, e2⟩ := h3 pos cv e
    refine ⟨c, e1, ?_⟩
    rw [upd_ne fun z => ?_]
    · exact e2
    · rw [z, hp] at e2
      exact n.2 _ (Option.some.inj e2)
theorem nt_lst {xs : List V} : (∀ ps, HO.lst xs ≠ .tbl ps) ∧ ∀ φ, HO.lst xs ≠ .ext φ := ⟨fun _ z => (by cases z), fun _ z => (by cases z)⟩
theorem ok_put {F H : Hp} {P p : Addr} {o o' : HO} (hp : H p = some o') (n : (∀ ps, o' ≠ .tbl ps) ∧ ∀ φ, o' ≠ .ext φ) (h : LamX.TabS H P qU ∧ F P = none) : LamX.TabS (upd H p o) P qU ∧ F P = none := ⟨tab_put hp n h.1, h.2⟩
theorem Ok.pur {F' H' : Hp} (ok : Ok K O w) (p : Pur w.F w.H F' H') : Ok K O ⟨F', H', w.σ, w.ρ⟩ ∧ Stp O w ⟨F', H', w.σ, w.ρ⟩ := by
  have hO : hasO O = true → H' (ob O w.σ) = w.H (ob O w.σ) := fun e => by
    obtain ⟨C, dx, fs, e1, _⟩ := (ok.obj e).ex
    rw [e1]
    exact p.hh.kh _ _ e1
  have hs : ∀ i, sv O H' w.σ i = w.sv O i := fun i => sv_same hO
  have hA : ∀ i b, OwnAt O ⟨F', H', w.σ, w.ρ⟩ i b ↔ OwnAt O w i b := fun i b => by
    show (∃ k d, _ ∧ _ ∧ _ ∧ sv O H' w.σ i = _) ↔ _
    rw [hs]
    exact Iff.rfl
  have hF : ∀ b, Fp O ⟨F', H', w.σ, w.ρ⟩ b ↔ Fp O w b := fun b => ⟨fun ⟨i, h⟩ => ⟨i, (hA i b).mp h⟩, fun ⟨i, h⟩ => ⟨i, (hA i b).mpr h⟩⟩
  refine ⟨⟨p.sub, ok.ls, ok.lr, fun i d h1 h2 => ?_, fun i k d h1 h2 h3 => ?_, fun i j b h1 h2 => ok.ap i j b ((hA i b).mp h1) ((hA j b).mp h2), fun e => ?_, fun P hP => ok_tb p (ok.tb P hP)⟩, ⟨p.ex, fun b o h _ _ => p.hh.kh b o h, fun b o h _ f => p.nw b o h f, fun b h => .inl ((hF b).mp h), fun i _ _ _ => hs i, fun _ _ _ _ => rfl, fun i k q d h1 h2 h3 h4 => ?_, fun e => ⟨rfl, fun z y => ?_⟩, fun P h => p.hh.tb P h⟩, hO⟩
  · obtain ⟨v, e, r⟩ := ok.fz i d h1 h2
    exact ⟨v, (hs i).trans e, r.mono p.ex⟩
  · obtain ⟨q, e, f, o, e1, e2⟩ := ok.ow i k d h1 h2 h3
    exact ⟨q, (hs i).trans e, p.nw q o e1 f, o, e2.kh (p.hh.kh q o e1), e2.mono p.ex⟩
  · obtain ⟨a0, a1, ⟨C, dx, fs, a2, a3⟩, a4, a5, a6⟩ := ok.obj e
    exact ⟨a0, a1, ⟨C, dx, fs, p.hh.kh _ _ a2, p.hh.kh _ _ a3⟩, p.nw _ _ a2 a4, fun z => a5 ((hF _).mp z), fun C dx fs z => a6 C dx fs ((hO e).symm.trans z)⟩
  · obtain ⟨q', e, f, o, e1, e2⟩ := ok.ow i k d h1 (Kd.own_of h2) h3
    rw [h4] at e
    cases e
    show H' q = w.H q
    rw [e1]
    exact e2.kh (p.hh.kh q o e1)
  · have y : H' (ob O w.σ) = none := y
    rw [hO e] at y
    exact z y
end
mutual
def rpB (K : PySem.W.Frag) : D → Value → Bool
  | .none, u => (match u with | .none => true | _ => false)
  | .bool b, u => (match u with | .bool c => b == c | _ => false)
  | .int i, u => (match u with | .int j _ => decide (i = j) | _ => false)
  | .str x, u => (match u with | .str y _ => decide (x = y) | _ => false)
  | .tuple ds, u => (match u with
    | .ref a => (match K.lookup a with
      | some ⟨.type c, _, .seq its _, _⟩ => decide (c = "tuple") && (decide (its.size ≤ sizeLine) && rpBA K ds its.toList)
      | _ => false)
    | _ => false)
  | .list ds, u => (match u with
    | .ref a => (match K.lookup a with
      | some ⟨.type c, none, .seq its _, _⟩ => decide (c = "list") && (decide (its.size ≤ sizeLine) && rpBA K ds its.toList)
      | _ => false)
    | _ => false)
  | .dict _, _ => false
def rpBA (K : PySem.W.Frag) : List D → List Value → Bool
  | [], us => us.isEmpty
  | d :: ds, us => (match us with
    | u :: us => rpB K d u && rpBA K ds us
    | [] => false)
end
def gcB (K : PySem.W.Frag) (x : Str) (d : D) : Bool := match PySem.W.nsIn K mainGlobals x with
  | some (some u) => rpB K d u
  | _ => false
def dvB (K : PySem.W.Frag) : List DictEntry → List (Str × D) → Bool
  | [], [] => true
  | e :: r, (k, d) :: s => (match e.key with | .str y _ => decide (y = k) | _ => false) && (rpB K d e.val && dvB K r s)
  | _, _ => false
def gdB (K : PySem.W.Frag) (x : Str) (kvs : List (Str × D)) : Bool := match K.lookup (He.ga K x) with
  | some ⟨_, _, .dict es _, _⟩ => dvB K es.toList kvs
  | _ => false
def bltNames : List Str := ["len", "isinstance", "int", "bool", "str", "list", "tuple", "dict", "set", "range", "zip", "enumerate", "all", "any", "max", "min", "abs", "sorted", "sum", "reversed"]
def setFT (b : Bool) (w : World) : World := { w with params := { w.params with followText := fun s => if s = "special-get-raises" then b else w.params.followText s } }
theorem setFT_eq (w : World) : setFT (w.params.followText "special-get-raises") w = w := by
  have e : (fun s => if s = "special-get-raises" then w.params.followText "special-get-raises" else w.params.followText s) = w.params.followText := funext fun s => by
    by_cases h : s = "special-get-raises"
    · rw [if_pos h, h]
    · rw [if_neg h]
  unfold setFT
  rw [e]
def clsV (K : PySem.W.Frag) (c : Str) : Value := .ref (He.ga K c)
def rtTail : List Value := [.type "RuntimeError", .type "Exception", .type "BaseException", .type "object"]
def eightX : List Str := ["BadCode", "BadNames", "BadNumber", "Unsound", "BadOrder", "BadText", "BadUnits", "BadBytes"]
def sixX : List Str := ["BadNames", "BadNumber", "Unsound", "BadOrder", "BadUnits", "BadBytes"]
def topS (i : Nat) : Stmt := PySem.Challenge.pw_codemill_k02_written.main.body.getD i (.Pass ⟨0, 0, 0, 0⟩)
abbrev s_is_number : Stmt := topS 15
abbrev s_is_name : Stmt := topS 16
abbrev s_is_kind : Stmt := topS 17
abbrev s_is_value : Stmt := topS 18
abbrev s_is_mark : Stmt := topS 19
abbrev s_is_row : Stmt := topS 20
abbrev s_bad_place : Stmt := topS 21
abbrev s_look_code : Stmt := topS 22
abbrev s_arg_text : Stmt := topS 26
abbrev s_code_text : Stmt := topS 27
abbrev s_number_in : Stmt := topS 28
abbrev s_arg_in : Stmt := topS 29
abbrev s_row_in : Stmt := topS 30
abbrev s_read_code : Stmt := topS 31
abbrev s__law_town : Stmt := topS 33
abbrev s__law_draw : Stmt := topS 34
abbrev s__law_pick : Stmt := topS 35
abbrev s__law_const : Stmt := topS 36
abbrev s__law_put : Stmt := topS 37
abbrev s__law_mark : Stmt := topS 38
abbrev s__law_value : Stmt := topS 39
abbrev s__law_tried_value : Stmt := topS 40
abbrev s__law_moved_value : Stmt := topS 41
abbrev s__law_deed : Stmt := topS 42
abbrev s__law_choice : Stmt := topS 43
abbrev s__law_round : Stmt := topS 44
abbrev s__law_tried : Stmt := topS 45
abbrev s__law_code : Stmt := topS 46
abbrev s__law_shown : Stmt := topS 47
abbrev s__law_line : Stmt := topS 48
abbrev s_law : Stmt := topS 49
def d_is_number : He.DefD := ⟨("is_number", none), "is_number", "is_number", defArgs s_is_number, defBody s_is_number, defScope s_is_number, [], []⟩
def d_is_name : He.DefD := ⟨("is_name", none), "is_name", "is_name", defArgs s_is_name, defBody s_is_name, defScope s_is_name, [], []⟩
def d_is_kind : He.DefD := ⟨("is_kind", none), "is_kind", "is_kind", defArgs s_is_kind, defBody s_is_kind, defScope s_is_kind, [], []⟩
def d_is_value : He.DefD := ⟨("is_value", none), "is_value", "is_value", defArgs s_is_value, defBody s_is_value, defScope s_is_value, [], []⟩
def d_is_mark : He.DefD := ⟨("is_mark", none), "is_mark", "is_mark", defArgs s_is_mark, defBody s_is_mark, defScope s_is_mark, [], []⟩
def d_is_row : He.DefD := ⟨("is_row", none), "is_row", "is_row", defArgs s_is_row, defBody s_is_row, defScope s_is_row, [], []⟩
def d_bad_place : He.DefD := ⟨("bad_place", none), "bad_place", "bad_place", defArgs s_bad_place, defBody s_bad_place, defScope s_bad_place, [], []⟩
def d_look_code : He.DefD := ⟨("look_code", none), "look_code", "look_code", defArgs s_look_code, defBody s_look_code, defScope s_look_code, [], []⟩
def d_arg_text : He.DefD := ⟨("arg_text", none), "arg_text", "arg_text", defArgs s_arg_text, defBody s_arg_text, defScope s_arg_text, [], []⟩
def d_code_text : He.DefD := ⟨("code_text", none), "code_text", "code_text", defArgs s_code_text, defBody s_code_text, defScope s_code_text, [], []⟩
def d_number_in : He.DefD := ⟨("number_in", none), "number_in", "number_in", defArgs s_number_in, defBody s_number_in, defScope s_number_in, [], []⟩
def d_arg_in : He.DefD := ⟨("arg_in", none), "arg_in", "arg_in", defArgs s_arg_in, defBody s_arg_in, defScope s_arg_in, [], []⟩
def d_row_in : He.DefD := ⟨("row_in", none), "row_in", "row_in", defArgs s_row_in, defBody s_row_in, defScope s_row_in, [], []⟩
def d_read_code : He.DefD := ⟨("read_code", none), "read_code", "read_code", defArgs s_read_code, defBody s_read_code, defScope s_read_code, [], []⟩
def d__law_town : He.DefD := ⟨("_law_town", none), "_law_town", "_law_town", defArgs s__law_town, defBody s__law_town, defScope s__law_town, [], []⟩
def d__law_draw : He.DefD := ⟨("_law_draw", none), "_law_draw", "_law_draw", defArgs s__law_draw, defBody s__law_draw, defScope s__law_draw, [], []⟩
def d__law_pick : He.DefD := ⟨("_law_pick", none), "_law_pick", "_law_pick", defArgs s__law_pick, defBody s__law_pick, defScope s__law_pick, [], []⟩
def d__law_const : He.DefD := ⟨("_law_const", none), "_law_const", "_law_const", defArgs s__law_const, defBody s__law_const, defScope s__law_const, [], []⟩
def d__law_put : He.DefD := ⟨("_law_put", none), "_law_put", "_law_put", defArgs s__law_put, defBody s__law_put, defScope s__law_put, [.non], []⟩
def d__law_mark : He.DefD := ⟨("_law_mark", none), "_law_mark", "_law_mark", defArgs s__law_mark, defBody s__law_mark, defScope s__law_mark, [], []⟩
def d__law_value : He.DefD := ⟨("_law_value", none), "_law_value", "_law_value", defArgs s__law_value, defBody s__law_value, defScope s__law_value, [], []⟩
def d__law_tried_value : He.DefD := ⟨("_law_tried_value", none), "_law_tried_value", "_law_tried_value", defArgs s__law_tried_value, defBody s__law_tried_value, defScope s__law_tried_value, [], []⟩
def d__law_moved_value : He.DefD := ⟨("_law_moved_value", none), "_law_moved_value", "_law_moved_value", defArgs s__law_moved_value, defBody s__law_moved_value, defScope s__law_moved_value, [], []⟩
def d__law_deed : He.DefD := ⟨("_law_deed", none), "_law_deed", "_law_deed", defArgs s__law_deed, defBody s__law_deed, defScope s__law_deed, [], []⟩
def d__law_choice : He.DefD := ⟨("_law_choice", none), "_law_choice", "_law_choice", defArgs s__law_choice, defBody s__law_choice, defScope s__law_choice, [], []⟩
def d__law_round : He.DefD := ⟨("_law_round", none), "_law_round", "_law_round", defArgs s__law_round, defBody s__law_round, defScope s__law_round, [], []⟩
def d__law_tried : He.DefD := ⟨("_law_tried", none), "_law_tried", "_law_tried", defArgs s__law_tried, defBody s__law_tried, defScope s__law_tried, [], []⟩
def d__law_code : He.DefD := ⟨("_law_code", none), "_law_code", "_law_code", defArgs s__law_code, defBody s__law_code, defScope s__law_code, [], []⟩
def d__law_shown : He.DefD := ⟨("_law_shown", none), "_law_shown", "_law_shown", defArgs s__law_shown, defBody s__law_shown, defScope s__law_shown, [], []⟩
def d__law_line : He.DefD := ⟨("_law_line", none), "_law_line", "_law_line", defArgs s__law_line, defBody s__law_line, defScope s__law_line, [], []⟩
def d_law : He.DefD := ⟨("law", none), "law", "law", defArgs s_law, defBody s_law, defScope s_law, [], []⟩
def fn : List He.DefD := [d_is_number, d_is_name, d_is_kind, d_is_value, d_is_mark, d_is_row, d_bad_place, d_look_code, d_arg_text, d_code_text, d_number_in, d_arg_in, d_row_in, d_read_code, d__law_town, d__law_draw, d__law_pick, d__law_const, d__law_put, d__law_mark, d__law_value, d__law_tried_value, d__law_moved_value, d__law_deed, d__law_choice, d__law_round, d__law_tried, d__law_code, d__law_shown, d__law_line, d_law]
def fa : List He.Fa := bltNames.map He.Fa.free ++ [.glo "COUNTED", .glo "WORDS"]
def ts : List He.Tab := [(fun K => He.ga K "COUNTED", ["copy", "swap"]), (fun K => He.ga K "WORDS", ["none", "true", "false"])]
def noF0 (K : PySem.W.Frag) : Bool := match K.lookup 0 with
  | some ⟨_, _, .func _, _⟩ => false
  | _ => true
def exHB (K : PySem.W.Frag) : Bool := (gcB K "BARE" (.tuple [(.str "add"), (.str "sub"), (.str "mul"), (.str "div"), (.str "rest"), (.str "less"), (.str "same"), (.str "drop"), (.str "neg"), (.str "not"), (.str "tell"), (.str "return"), (.str "raise"), (.str "endtry")]) && (gcB K "CAPITALS" (.str "ABCDEFGHIJKLMNOPQRSTUVWXYZ") && (gdB K "COUNTED" [("copy", (.int 1)), ("swap", (.int 2))] && (gcB K "FIGURES" (.str "0123456789") && (gcB K "GREAT" (.int 1000000000) && (gcB K "JUMPS" (.tuple [(.str "jump"), (.str "iftrue"), (.str "iffalse"), (.str "ortrue"), (.str "orfalse"), (.str "try")]) && (gcB K "LETTERS" (.str "abcdefghijklmnopqrstuvwxyz") && (gcB K "MOST_ROWS" (.int 150) && (gcB K "NAMED" (.tuple [(.str "load"), (.str "quick"), (.str "store"), (.str "clear")]) && (gcB K "VALUES" (.tuple [(.str "push")]) && (gdB K "WORDS" [("none", .none), ("true", (.bool true)), ("false", (.bool false))] && (decide (tabsOf K = []) && (noF0 K && true)))))))))))))
abbrev R : PySem.W.OpenRow := PySem.W.OpenLaw.row PySem.Challenge.rw_codemill_k02_written
def asY : List Addr := List.range 2500
def obY (g : Addr → Option Obj) : He.AlX := (He.obsT fa fn ts (He.frT g asY), exHB (He.frT g asY))
abbrev hk : PySem.W.Hook where
  α := He.AlX
  obs := fun s => obY s.heap.get?
  val := fun w => He.valX fn ts w
  says := fun w h => ∃ K : PySem.W.Frag, K.In h ∧ He.SaysX fa fn ts [] exHB w h K
  of := fun w s e => ⟨_, He.frT_in, congrArg (fun z : He.AlX => z.1) e, congrArg (fun z : He.AlX => z.2) e, fun p hp => (by cases hp), fun p hp => (by cases hp), fun p hp => by cases hp⟩
  keeps := (He.hookX 1 fa fn ts [] exHB).keeps
def obX (s : PySem.W.SharedT) : He.AlX := obY (HandSHeadRun.getT s)
theorem ob_eq (s : PySem.W.SharedT) : obX s = hk.obs s.abs := by
  show obY (HandSHeadRun.getT s) = obY s.abs.heap.get?
  rw [show HandSHeadRun.getT s = s.abs.heap.get? from funext (HandSHeadRun.getT_eq s)]
def loose : List Str := (["MillError", "BadCode", "BadText", "LETTERS", "CAPITALS", "MOST_ROWS", "GREAT", "VALUES", "NAMED", "COUNTED", "JUMPS", "PAIRED", "BARE", "is_number", "is_name", "is_kind"] : List Str) ++ (["is_value", "is_mark", "is_row", "bad_place", "look_code", "FIGURES", "WORDS", "arg_text", "code_text", "number_in", "arg_in", "row_in", "read_code", "_law_town", "_law_draw", "_law_pick"] : List Str) ++ (["_law_const", "_law_put", "_law_mark", "_law_value", "_law_tried_value", "_law_moved_value", "_law_deed", "_law_choice", "_law_round", "_law_tried", "_law_code", "_law_shown", "_law_line"] : List Str)
theorem run_true (w : World) : HandSHeadRun.RunEq R (PySem.W.view R.prog [49]) hk obX 12000 loose (setFT true w) := by
  intro os
  kernel_rfl
theorem run_false (w : World) : HandSHeadRun.RunEq R (PySem.W.view R.prog [49]) hk obX 12000 loose (setFT false w) := by
  intro os
  kernel_rfl
theorem runFT (b : Bool) (w : World) : HandSHeadRun.RunEq R (PySem.W.view R.prog [49]) hk obX 12000 loose (setFT b w) := by
  cases b
  · exact run_false w
  · exact run_true w
theorem run (w : World) : HandSHeadRun.RunEq R (PySem.W.view R.prog [49]) hk obX 12000 loose w := by
  have h := runFT (w.params.followText "special-get-raises") w
  rwa [setFT_eq] at h
abbrev M := En → Option (D × En)
abbrev MT := En → Option (Bool × En)
abbrev MA := En → Option (List D × En)
def Rss (K : PySem.W.Frag) (O : List Kd) (w w' : Wd) : List Ak → List D → List V → Prop
  | [], ds, vs => ds = [] ∧ vs = []
  | k :: ks, ds, vs => ∃ d ds' v vs', ds = d :: ds' ∧ vs = v :: vs' ∧ Rs K O w w' k d v ∧ Rss K O w w' ks ds' vs'
theorem Rss.step {K : PySem.W.Frag} {O : List Kd} {w w1 w2 : Wd} (b : Stp O w1 w2) (hs : w2.σ = w1.σ) : ∀ {ks : List Ak} {ds : List D} {vs : List V}, Rss K O w w1 ks ds vs → Rss K O w w2 ks ds vs
  | [], _, _, h => h
  | k :: ks, _, _, ⟨d, ds', v, vs', e1, e2, h1, h2⟩ => ⟨d, ds', v, vs', e1, e2, h1.step b hs, h2.step b hs⟩
theorem Rss.pre {K : PySem.W.Frag} {O : List Kd} {w w1 w2 : Wd} (a : Stp O w w1) : ∀ {ks : List Ak} {ds : List D} {vs : List V}, Rss K O w1 w2 ks ds vs → Rss K O w w2 ks ds vs
  | [], _, _, h => h
  | k :: ks, _, _, ⟨d, ds', v, vs', e1, e2, h1, h2⟩ => ⟨d, ds', v, vs', e1, e2, h1.pre a, h2.pre a⟩
def tE (K : PySem.W.Frag) (O : List Kd) (m : M) (k : Ak) : TE := fun σ H Q => ∃ F ρ d ρ', Ok K O ⟨F, H, σ, ρ⟩ ∧ m ρ = some (d, ρ') ∧
  ∀ v F' H', Ok K O ⟨F', H', σ, ρ'⟩ → Stp O ⟨F, H, σ, ρ⟩ ⟨F', H', σ, ρ'⟩ → Rs K O ⟨F, H, σ, ρ⟩ ⟨F', H', σ, ρ'⟩ k d v → Q v H'
def tT (K : PySem.W.Frag) (O : List Kd) (m : MT) : TT := fun σ H Q => ∃ F ρ b ρ', Ok K O ⟨F, H, σ, ρ⟩ ∧ m ρ = some (b, ρ') ∧
  ∀ F' H', Ok K O ⟨F', H', σ, ρ'⟩ → Stp O ⟨F, H, σ, ρ⟩ ⟨F', H', σ, ρ'⟩ → Q b H'
def tA (K : PySem.W.Frag) (O : List Kd) (m : MA) (ks : List Ak) : TA := fun σ H Q => ∃ F ρ ds ρ', Ok K O ⟨F, H, σ, ρ⟩ ∧ m ρ = some (ds, ρ') ∧
  ∀ vs F' H', Ok K O ⟨F', H', σ, ρ'⟩ → Stp O ⟨F, H, σ, ρ⟩ ⟨F', H', σ, ρ'⟩ → Rss K O ⟨F, H, σ, ρ⟩ ⟨F', H', σ, ρ'⟩ ks ds vs → Q vs H'
section
variable {X : Cx} {e : Expr} {es : List Expr}
theorem PEi {t t' : TE} (h : PE X e t) (k : ∀ σ H Q, t' σ H Q → t σ H Q) : PE X e t' := ⟨fun pins s σ H Q I q => h.run pins s σ H Q I (k σ H Q q)⟩
theorem PTi {t t' : TT} (h : PT X e t) (k : ∀ σ H Q, t' σ H Q → t σ H Q) : PT X e t' := ⟨fun pins s σ H Q I q => h.run pins s σ H Q I (k σ H Q q)⟩
theorem PWi {t t' : TT} (h : PW X e t) (k : ∀ σ H Q, t' σ H Q → t σ H Q) : PW X e t' := ⟨fun wh pins s σ H Q I q => h.run wh pins s σ H Q I (k σ H Q q)⟩
theorem PAi {t t' : TA} (h : PA X es t) (k : ∀ σ H Q, t' σ H Q → t σ H Q) : PA X es t' := ⟨fun pos pins s σ H Q I q => h.run pos pins s σ H Q I (k σ H Q q)⟩
end
def mVar (i : Nat) : M := fun ρ => match ρ[i]? with
  | some (some d) => some (d, ρ)
  | _ => none
def mMv (i : Nat) : M := fun ρ => match ρ[i]? with
  | some (some d) => some (d, ρ.set i none)
  | _ => none
def mBr (i : Nat) : M := fun ρ => match ρ[i]? with
  | some (some _) => some (.none, ρ)
  | _ => none
def mC (d : D) : M := fun ρ => some (d, ρ)
theorem slot_some {ρ : En} {i : Nat} {α : Type} {f : D → Option α} {x : α} (h : (match ρ[i]? with | some (some d) => f d | _ => none) = some x) : ∃ d, ρ[i]? = some (some d) ∧ f d = some x := by
  split at h
  · exact ⟨_, by assumption, h⟩
  · cases h
section
variable {K : PySem.W.Frag} {O : List Kd} {w : Wd} {i : Nat}
theorem own_unset (p : Addr) {σ : L2.St} {ρ : En} {F H F' : Hp} (j : Nat) (h : OwnAt O ⟨F', H, σ, ρ.set i none⟩ j p) : OwnAt O ⟨F, H, σ, ρ⟩ j p ∧ j ≠ i := by
  obtain ⟨k, d, h1, h2, h3, h4⟩ := h
  by_cases e : i = j
  · subst e
    have h3 : (ρ.set i none)[i]? = some (some d) := h3
    rw [List.getElem?_set] at h3
    split at h3
    · split at h3 <;> cases h3
    · contradiction
  · have h3 : (ρ.set i none)[j]? = some (some d) := h3
    rw [List.getElem?_set_ne e] at h3
    exact ⟨⟨k, d, h1, h2, h3, h4⟩, fun z => e z.symm⟩
theorem Ok.unset (ok : Ok K O w) (i : Nat) : Ok K O ⟨w.F, w.H, w.σ, w.ρ.set i none⟩ := by
  refine ⟨ok.sub, ok.ls, by show (w.ρ.set i none).length = _; rw [List.length_set]; exact ok.lr, fun j d h1 h2 => ?_, fun j k d h1 h2 h3 => ?_, fun a b p h1 h2 => ok.ap a b p (own_unset p a h1).1 (own_unset p b h2).1, fun e => ⟨(ok.obj e).at0, (ok.obj e).n0, (ok.obj e).ex, (ok.obj e).fr, fun ⟨j, z⟩ => (ok.obj e).nf ⟨j, (own_unset (F := w.F) _ j z).1⟩, (ok.obj e).cls⟩, ok.tb⟩
  · have h2 : (w.ρ.set i none)[j]? = some (some d) := h2
    by_cases e : i = j
    · subst e
      rw [List.getElem?_set] at h2
      split at h2
      · split at h2 <;> cases h2
      · contradiction
    · rw [List.getElem?_set_ne e] at h2
      exact ok.fz j d h1 h2
  · have h3 : (w.ρ.set i none)[j]? = some (some d) := h3
    by_cases e : i = j
    · subst e
      rw [List.getElem?_set] at h3
      split at h3
      · split at h3 <;> cases h3
      · contradiction
    · rw [List.getElem?_set_ne e] at h3
      exact ok.ow j k d h1 h2 h3
end
section
variable {X : Cx} {O : List Kd} {x : Str} {pos : Pos} {i : Nat}
theorem e_var (i : Nat) (hO : O[i]? = some Kd.fz := by rfl) (hl : i < nl O := by decide) (hN : X.N[i]? = some x := by rfl) (hv : Vis X.env.scope x := by first | exact Or.inl rfl | exact Or.inr (Or.inl rfl) | exact Or.inr (Or.inr rfl)) (hd : (x == ("__debug__" : Str)) = false := by decide)
    (hcd : (x == ("__classdict__" : Str)) = false := by decide) : PE X (.Name x pos) (tE X.K O (mVar i) .fz) := by
  refine PEi (pe_var hN hv hd hcd) fun σ H Q h => ?_
  obtain ⟨F, ρ, d, ρ', ok, hm, k⟩ := h
  obtain ⟨d', e1, e2⟩ := slot_some hm
  cases e2
  obtain ⟨v, e3, r⟩ := ok.fz i _ hO e1
  exact ⟨v, (sv_loc hl).symm.trans e3, k v F H ok (.refl _ _) r⟩
theorem e_mv (i : Nat) (hO : O[i]? = some Kd.ow := by rfl) (hl : i < nl O := by decide) (hN : X.N[i]? = some x := by rfl) (hv : Vis X.env.scope x := by first | exact Or.inl rfl | exact Or.inr (Or.inl rfl) | exact Or.inr (Or.inr rfl)) (hd : (x == ("__debug__" : Str)) = false := by decide)
    (hcd : (x == ("__classdict__" : Str)) = false := by decide) : PE X (.Name x pos) (tE X.K O (mMv i) .ow) := by
  refine PEi (pe_var hN hv hd hcd) fun σ H Q h => ?_
  obtain ⟨F, ρ, d, ρ', ok, hm, k⟩ := h
  obtain ⟨d', e1, e2⟩ := slot_some hm
  cases e2
  obtain ⟨p, e3, f, r⟩ := ok.ow i Kd.ow _ hO rfl e1
  have at_i : OwnAt O ⟨F, H, σ, ρ⟩ i p := ⟨Kd.ow, d, hO, rfl, e1, e3⟩
  refine ⟨.ref p, (sv_loc hl).symm.trans e3, k _ F H (ok.unset i) ⟨⟨Same.refl _, fun _ _ h _ _ => .of h, fun _ _ _ _ h => h, fun b h => ?_, fun _ _ _ _ => rfl, fun j q h1 h2 => ?_, fun _ _ _ _ _ _ _ _ => rfl, fun _ => ⟨rfl, id⟩, fun _ h => h⟩, fun _ => rfl⟩ ⟨p, rfl, f, r, fun z => ?_, .inl ⟨i, at_i⟩, fun e z => (ok.obj e).nf (by rw [← show p = ob O σ from z]; exact ⟨i, at_i⟩)⟩⟩
  · obtain ⟨j, h⟩ := h
    exact .inl ⟨j, (own_unset b j h).1⟩
  · have e : i ≠ j := fun z => by
      subst z
      rw [hO] at h1
      cases h1
      cases h2
    exact List.getElem?_set_ne e
  · obtain ⟨j, h⟩ := z
    obtain ⟨h1, h2⟩ := own_unset (F := F) (H := H) p j h
    exact h2 (ok.ap j i p h1 at_i)
theorem e_br (i : Nat) (hO : ∃ q : Kd, O[i]? = some q ∧ q.own = true := by exact ⟨_, rfl, rfl⟩) (hl : i < nl O := by decide) (hN : X.N[i]? = some x := by rfl) (hv : Vis X.env.scope x := by first | exact Or.inl rfl | exact Or.inr (Or.inl rfl) | exact Or.inr (Or.inr rfl)) (hd : (x == ("__debug__" : Str)) = false := by decide)
    (hcd : (x == ("__classdict__" : Str)) = false := by decide) : PE X (.Name x pos) (tE X.K O (mBr i) (.br i)) := by
  refine PEi (pe_var hN hv hd hcd) fun σ H Q h => ?_
  obtain ⟨F, ρ, d, ρ', ok, hm, k⟩ := h
  obtain ⟨d', e1, e2⟩ := slot_some hm
  cases e2
  obtain ⟨q, h1, h2⟩ := hO
  obtain ⟨p, e3, f, r⟩ := ok.ow i q _ h1 h2 e1
  exact ⟨.ref p, (sv_loc hl).symm.trans e3, k _ F H ok (.refl _ _) ⟨e3, q, h1, h2⟩⟩
theorem e_const {e : Expr} {v : V} {d : D} (h : PE X e (tC v)) (r : ∀ F : Hp, Rp X.K F d v) : PE X e (tE X.K O (mC d) .fz) := by
  refine PEi h fun σ H Q q => ?_
  obtain ⟨F, ρ, d', ρ', ok, hm, k⟩ := q
  cases hm
  exact k v F H ok (.refl _ _) (r F)
theorem e_int {n : Int} {j : Nat} : PE X (.Constant (.int n) j pos) (tE X.K O (mC (.int n)) .fz) := e_const pe_int fun _ => rfl
theorem e_bl {b : Bool} {j : Nat} : PE X (.Constant (.bool b) j pos) (tE X.K O (mC (.bool b)) .fz) := e_const pe_bl fun _ => rfl
theorem e_non {j : Nat} : PE X (.Constant .none j pos) (tE X.K O (mC .none) .fz) := e_const pe_non fun _ => rfl
theorem e_str {z : Str} {j : Nat} : PE X (.Constant (.str z) j pos) (tE X.K O (mC (.str z)) .fz) := e_const pe_str fun _ => rfl
theorem frz_out {K : PySem.W.Frag} {w w' : Wd} {d : D} {v : V} (ok : Ok K O w') (st : Stp O w w') (r : Rs K O w w' .ow d v) : ∃ F', Ok K O ⟨F', w'.H, w'.σ, w'.ρ⟩ ∧ Stp O w ⟨F', w'.H, w'.σ, w'.ρ⟩ ∧ Rs K O w ⟨F', w'.H, w'.σ, w'.ρ⟩ .fz d v := by
  obtain ⟨p, rfl, h1, ⟨o, h2, h3⟩, h4, h5, h6⟩ := r
  have e' : Same w'.F (upd w'.F p o) := fun b u hb => by
    rw [upd_ne (ne_of_none hb h1)]
    exact hb
  refine ⟨upd w'.F p o, ⟨fun b u hb => ?_, ok.ls, ok.lr, fun i d g1 g2 => ?_, fun i q d g1 g2 g3 => ?_, ok.ap, fun e => ⟨(ok.obj e).at0, (ok.obj e).n0, (ok.obj e).ex, by show upd w'.F p o _ = none; rw [upd_ne (fun z => h6 e z.symm)]; exact (ok.obj e).fr, (ok.obj e).nf, (ok.obj e).cls⟩, fun P hP => ok_tb1 (ok.tb P hP) h2 h3⟩, ⟨⟨st.ex.trans e', st.kp, fun b u hb z f => ?_, st.fp, st.pn, st.lk, st.lo, st.o0, st.tb⟩, st.ost⟩, (h3.mono e').rp upd_same⟩
  · by_cases e : b = p
    · subst e
      have hb : upd w'.F b o b = some u := hb
      rw [upd_same] at hb
      cases hb
      exact h2
    · have hb : upd w'.F p o b = some u := hb
      rw [upd_ne e] at hb
      exact ok.sub b u hb
  · obtain ⟨v, e, r⟩ := ok.fz i d g1 g2
    exact ⟨v, e, r.mono e'⟩
  · obtain ⟨c, e, f, r⟩ := ok.ow i q d g1 g2 g3
    refine ⟨c, e, ?_, r.mono e' fun _ z => z⟩
    have hc : c ≠ p := fun z => by
      subst z
      exact h4 ⟨i, q, d, g1, g2, g3, e⟩
    show upd w'.F p o c = none
    rw [upd_ne hc]
    exact f
  · have hc : b ≠ p := fun y => by
      subst y
      rcases h5 with h5 | h5
      · exact z h5
      · rw [h5] at hb
        cases hb
    show upd w'.F p o b = none
    rw [upd_ne hc]
    exact st.nw b u hb z f
theorem e_frz {e : Expr} {m : M} (h : PE X e (tE X.K O m .ow)) : PE X e (tE X.K O m .fz) := by
  refine PEi h fun σ H Q q => ?_
  obtain ⟨F, ρ, d, ρ', ok, hm, k⟩ := q
  refine ⟨F, ρ, d, ρ', ok, hm, fun v F' H' ok' st r => ?_⟩
  obtain ⟨F2, a, b, c⟩ := frz_out ok' st r
  exact k v F2 H' a b c
end
def maNil : MA := fun ρ => some ([], ρ)
def maCons (m : M) (r : MA) : MA := fun ρ => (m ρ).bind fun p => (r p.2).bind fun q => some (p.1 :: q.1, q.2)
section
variable {X : Cx} {O : List Kd} {e : Expr} {es : List Expr} {σ : L2.St} {H : Hp}
theorem tA_nil {Q : List V → Hp → Prop} (h : tA X.K O maNil [] σ H Q) : tNil σ H Q := by
  obtain ⟨F, ρ, d, ρ', ok, hm, k⟩ := h
  cases hm
  exact k [] F H ok (.refl _ _) ⟨rfl, rfl⟩
theorem bind_some {α β : Type} {o : Option α} {f : α → Option β} {x : β} (h : o.bind f = some x) : ∃ a, o = some a ∧ f a = some x := by
  cases o with
  | none => cases h
  | some a => exact ⟨a, rfl, h⟩
theorem map_some {α β : Type} {o : Option α} {f : α → β} {x : β} (h : o.map f = some x) : ∃ a, o = some a ∧ f a = x := by
  cases o with
  | none => cases h
  | some a => exact ⟨a, rfl, Option.some.inj h⟩
theorem tA_cons {K : PySem.W.Frag} {m : M} {r : MA} {k : Ak} {ks : List Ak} {Q : List V → Hp → Prop} (h : tA K O (maCons m r) (k :: ks) σ H Q) : tCons (tE K O m k) (tA K O r ks) σ H Q := by
  obtain ⟨F, ρ, ds, ρ', ok, hm, q⟩ := h
  obtain ⟨⟨d, ρ1⟩, h1, h2⟩ := bind_some hm
  obtain ⟨⟨ds', ρ2⟩, h3, h4⟩ := bind_some h2
  cases h4
  refine ⟨F, ρ, d, ρ1, ok, h1, fun v F1 H1 ok1 st1 r1 => ⟨F1, ρ1, ds', ρ2, ok1, h3, fun vs F2 H2 ok2 st2 r2 => ?_⟩⟩
  exact q (v :: vs) F2 H2 ok2 (st1.trans st2) ⟨d, ds', v, vs, rfl, rfl, r1.step st2 rfl, r2.pre st1⟩
theorem a_nil : PA X [] (tA X.K O maNil []) := PAi pa_nil fun _ _ _ h => tA_nil h
theorem a_cons {m : M} {r : MA} {k : Ak} {ks : List Ak} (h : PE X e (tE X.K O m k)) (t : PA X es (tA X.K O r ks)) (hs : starEach (e :: es) X.env = (false, eval e X.env) :: starEach es X.env := by rfl) : PA X (e :: es) (tA X.K O (maCons m r) (k :: ks)) :=
  PAi (pa_cons h t hs) fun _ _ _ h => tA_cons h
end
mutual
def Vw (K : PySem.W.Frag) (F H : Hp) (d : D) (v : V) : Prop := match d with
  | .list ds => ∃ a xs, v = .ref a ∧ SqL K H a xs ∧ RpA K F ds xs
  | .dict kvs => (∃ a vs, v = .ref a ∧ Rd H a (.dK vs) ∧ RpD K F kvs vs) ∨ RpO K F kvs v
  | d => Rp K F d v
end
def VwA (K : PySem.W.Frag) (F H : Hp) : List D → List V → Prop
  | [], vs => vs = []
  | d :: ds, vs => ∃ v r, vs = v :: r ∧ Vw K F H d v ∧ VwA K F H ds r
theorem Rp.vw {K : PySem.W.Frag} {F H : Hp} (s : Same F H) : ∀ {d : D} {v : V}, Rp K F d v → Vw K F H d v
  | .none, _, h => h
  | .bool _, _, h => h
  | .int _, _, h => h
  | .str _, _, h => h
  | .tuple _, _, h => h
  | .list ds, _, ⟨a, xs, e, h1, h2⟩ => ⟨a, xs, e, s.seq h1, h2⟩
  | .dict ds, _, .inl ⟨a, xs, e, h1, h2⟩ => .inl ⟨a, xs, e, same_rd s h1, h2⟩
  | .dict ds, _, .inr h => .inr h
theorem OwnO.vw {K : PySem.W.Frag} {F H : Hp} {p : Addr} : ∀ {d : D}, OwnO K F H p d → Vw K F H d (.ref p)
  | .none, ⟨_, _, h⟩ => h.elim
  | .bool _, ⟨_, _, h⟩ => h.elim
  | .int _, ⟨_, _, h⟩ => h.elim
  | .str _, ⟨_, _, h⟩ => h.elim
  | .tuple _, ⟨_, _, h⟩ => h.elim
  | .list ds, ⟨o, h1, xs, h2, h3⟩ => ⟨p, xs, rfl, .inl (.inl (by rw [h1, h2])), h3⟩
  | .dict ds, ⟨o, h1, xs, h2, h3⟩ => .inl ⟨p, xs, rfl, .inl (by rw [h1, h2]), h3⟩
def fill : List Ak → List D → En → Option (List D)
  | [], [], _ => some []
  | .br i :: ks, _ :: ds, ρ => (match ρ[i]? with
    | some (some d) => (fill ks ds ρ).map (d :: ·)
    | _ => none)
  | .fz :: ks, d :: ds, ρ => (fill ks ds ρ).map (d :: ·)
  | .ow :: ks, d :: ds, ρ => (fill ks ds ρ).map (d :: ·)
  | _, _, _ => none
theorem Rss.views {K : PySem.W.Frag} {O : List Kd} {w w' : Wd} (ok : Ok K O w') : ∀ {ks : List Ak} {ds : List D} {vs : List V} {es : List D}, Rss K O w w' ks ds vs → fill ks ds w'.ρ = some es → VwA K w'.F w'.H es vs
  | [], _, _, _, ⟨h1, h2⟩, hf => by
    subst h1 h2
    cases hf
    rfl
  | .br i :: ks, _, _, _, ⟨d, ds', v, vs', h1, h2, h3, h4⟩, hf => by
    subst h1 h2
    obtain ⟨d', e1, e2⟩ := slot_some hf
    obtain ⟨es', e3, e4⟩ := map_some e2
    subst e4
    obtain ⟨g1, q, g2, g3⟩ := h3
    obtain ⟨p, r1, r2, r3⟩ := ok.ow i q d' g2 g3 e1
    rw [g1] at r1
    cases r1
    exact ⟨.ref p, vs', rfl, r3.vw, h4.views ok e3⟩
  | .fz :: ks, _, _, _, ⟨d, ds', v, vs', h1, h2, h3, h4⟩, hf => by
    subst h1 h2
    obtain ⟨es', e3, e4⟩ := map_some hf
    subst e4
    exact ⟨v, vs', rfl, Rp.vw ok.sub h3, h4.views ok e3⟩
  | .ow :: ks, _, _, _, ⟨d, ds', v, vs', h1, h2, h3, h4⟩, hf => by
    subst h1 h2
    obtain ⟨es', e3, e4⟩ := map_some hf
    subst e4
    obtain ⟨p, rfl, g1, g2, g3, g4⟩ := h3
    exact ⟨.ref p, vs', rfl, g2.vw, h4.views ok e3⟩
def mOp (ks : List Ak) (ma : MA) (op : List D → Option D) : M := fun ρ => (ma ρ).bind fun p => (fill ks p.1 p.2).bind fun ds => (op ds).map fun d => (d, p.2)
def Rs1 (K : PySem.W.Frag) (H F' H' : Hp) (k : Ak) (d : D) (v : V) : Prop := match k with
  | .fz => Rp K F' d v
  | .ow => ∃ p, v = .ref p ∧ F' p = none ∧ OwnO K F' H' p d ∧ H p = none
  | .br _ => False
def Post (K : PySem.W.Frag) (F H : Hp) (k : Ak) (d : D) (Q : VK) : Prop := ∀ v F' H', Pur F H F' H' → Rs1 K H F' H' k d v → Q v H'
def LSem (K : PySem.W.Frag) (r : List V → Hp → VK → Prop) (op : List D → Option D) (k : Ak) : Prop := ∀ (F H : Hp) (ds : List D) (vs : List V) (d : D) (Q : VK), Same F H → VwA K F H ds vs → op ds = some d → Post K F H k d Q → r vs H Q
section
variable {K : PySem.W.Frag} {O : List Kd} {w : Wd}
theorem Rs1.rs {k : Ak} {d : D} {v : V} {F' H' : Hp} (ok : Ok K O w) (st : Stp O w ⟨F', H', w.σ, w.ρ⟩) (h : Rs1 K w.H F' H' k d v) : Rs K O w ⟨F', H', w.σ, w.ρ⟩ k d v := by
  cases k with
  | fz => exact h
  | ow =>
    obtain ⟨p, e, h1, h2, h3⟩ := h
    refine ⟨p, e, h1, h2, fun z => ?_, .inr h3, fun e z => ?_⟩
    · obtain ⟨_, o, z⟩ := ok.ownF (p := p) ((fp_same (F := w.F) (H := w.H) st.ost).mp z)
      rw [h3] at z
      cases z
    · obtain ⟨C, dx, fs, y, _⟩ := (ok.obj e).ex
      have z : p = ob O w.σ := z
      rw [z, y] at h3
      cases h3
  | br i => exact h.elim
theorem tA_op {ks : List Ak} {ma : MA} {op : List D → Option D} {r : List V → Hp → VK → Prop} {k : Ak} {σ : L2.St} {H : Hp} {Q : VK} (hs : LSem K r op k) (h : tE K O (mOp ks ma op) k σ H Q) : tA K O ma ks σ H fun vs H1 => r vs H1 Q := by
  obtain ⟨F, ρ, d, ρ', ok, hm, q⟩ := h
  obtain ⟨⟨ds, ρ1⟩, h1, h2⟩ := bind_some hm
  obtain ⟨es, h3, h4⟩ := bind_some h2
  obtain ⟨d', h5, h6⟩ := map_some h4
  cases h6
  refine ⟨F, ρ, ds, ρ1, ok, h1, fun vs F1 H1 ok1 st1 r1 => ?_⟩
  refine hs F1 H1 es vs d Q ok1.sub (r1.views ok1 h3) h5 fun v F2 H2 pu r2 => ?_
  obtain ⟨ok2, st2⟩ := ok1.pur pu
  exact q v F2 H2 ok2 (st1.trans st2) ((r2.rs ok1 st2).pre st1)
end
section
variable {X : Cx} {O : List Kd} {e a b : Expr} {es : List Expr} {ma mb : M} {ka kb k : Ak} {op : List D → Option D} {σ : L2.St} {H : Hp} {Q : VK}
def m2 (ka kb : Ak) (ma mb : M) (op : List D → Option D) : M := mOp [ka, kb] (maCons ma (maCons mb maNil)) op
def m1 (ka : Ak) (ma : M) (op : List D → Option D) : M := mOp [ka] (maCons ma maNil) op
def rL2 (r : R2) : List V → Hp → VK → Prop := fun vs H Q => ∃ x y, vs = [x, y] ∧ r x y H Q
def rL1 (r : V → Hp → VK → Prop) : List V → Hp → VK → Prop := fun vs H Q => ∃ x, vs = [x] ∧ r x H Q
theorem tOp_of {K : PySem.W.Frag} {r : R2} (hs : LSem K (rL2 r) op k) (h : tE K O (m2 ka kb ma mb op) k σ H Q) : tOp r (tE K O ma ka) (tE K O mb kb) σ H Q := by
  have q := tA_cons (tA_op hs h)
  obtain ⟨F, ρ, d, ρ', ok, hm, q⟩ := q
  refine ⟨F, ρ, d, ρ', ok, hm, fun v F1 H1 ok1 st1 r1 => ?_⟩
  have q1 := tA_cons (q v F1 H1 ok1 st1 r1)
  obtain ⟨F2, ρ2, d2, ρ2', ok2, hm2, q2⟩ := q1
  refine ⟨F2, ρ2, d2, ρ2', ok2, hm2, fun v2 F3 H3 ok3 st3 r3 => ?_⟩
  obtain ⟨F4, ρ4, ds, ρ4', ok4, hm4, q4⟩ := q2 v2 F3 H3 ok3 st3 r3
  cases hm4
  obtain ⟨x, y, e1, z⟩ := q4 [] F4 H3 ok4 (.refl _ _) ⟨rfl, rfl⟩
  cases e1
  exact z
theorem tUn_of {K : PySem.W.Frag} {r : V → Hp → VK → Prop} (hs : LSem K (rL1 r) op k) (h : tE K O (m1 ka ma op) k σ H Q) : tUn r (tE K O ma ka) σ H Q := by
  have q := tA_cons (tA_op hs h)
  obtain ⟨F, ρ, d, ρ', ok, hm, q⟩ := q
  refine ⟨F, ρ, d, ρ', ok, hm, fun v F1 H1 ok1 st1 r1 => ?_⟩
  obtain ⟨F4, ρ4, ds, ρ4', ok4, hm4, q4⟩ := q v F1 H1 ok1 st1 r1
  cases hm4
  obtain ⟨x, e1, z⟩ := q4 [] F4 H1 ok4 (.refl _ _) ⟨rfl, rfl⟩
  cases e1
  exact z
theorem e_op {bo : Operator} {r : R2} {pos : Pos} (ho : OpR X (binaryOp bo) r) (hs : LSem X.K (rL2 r) op k) (ha : PE X a (tE X.K O ma ka)) (hb : PE X b (tE X.K O mb kb)) : PE X (.BinOp a bo b pos) (tE X.K O (m2 ka kb ma mb op) k) :=
  PEi (pe_op ho ha hb) fun _ _ _ h => tOp_of hs h
theorem e_cmp {co : CmpOp} {r : R2} {pos : Pos} (ho : OpR X (compareOp co) r) (hs : LSem X.K (rL2 r) op k) (ha : PE X a (tE X.K O ma ka)) (hb : PE X b (tE X.K O mb kb)) (hm : behindInMarks co b = false := by first | exact nomark _ | rfl | with_unfolding_all rfl) :
    PE X (.Compare a [co] [b] pos) (tE X.K O (m2 ka kb ma mb op) k) := PEi (pe_cmpR ho ha hb hm) fun _ _ _ h => tOp_of hs h
theorem e_un {uo : UnaryOp} {r : V → Hp → VK → Prop} {pos : Pos} (ho : UnR X (unaryOp uo) r) (hs : LSem X.K (rL1 r) op k) (ha : PE X a (tE X.K O ma ka)) : PE X (.UnaryOp uo a pos) (tE X.K O (m1 ka ma op) k) :=
  PEi (pe_un ho ha) fun _ _ _ h => tUn_of hs h
def mTr (m : M) : MT := fun ρ => (m ρ).bind fun p => match p.1 with
  | .bool b => some (b, p.2)
  | _ => none
theorem tr_some {m : M} {ρ : En} {b : Bool} {ρ' : En} (h : mTr m ρ = some (b, ρ')) : m ρ = some (.bool b, ρ') := by
  obtain ⟨⟨d, ρ1⟩, h1, h2⟩ := bind_some h
  cases d <;> cases h2
  exact h1
theorem tTr {K : PySem.W.Frag} {m : M} {Q : Bool → Hp → Prop} (h : tT K O (mTr m) σ H Q) : tE K O m .fz σ H fun x H1 => ∃ c, x = .bl c ∧ Q c H1 := by
  obtain ⟨F, ρ, b, ρ', ok, hm, q⟩ := h
  exact ⟨F, ρ, _, ρ', ok, tr_some hm, fun v F1 H1 ok1 st1 r1 => ⟨b, r1, q F1 H1 ok1 st1⟩⟩
theorem t_cmp {co : CmpOp} {r : R2} {pos : Pos} (ho : OpR X (compareOp co) r) (hs : LSem X.K (rL2 r) op .fz) (ha : PE X a (tE X.K O ma ka)) (hb : PE X b (tE X.K O mb kb)) (hm : behindInMarks co b = false := by first | exact nomark _ | rfl | with_unfolding_all rfl) :
    PT X (.Compare a [co] [b] pos) (tT X.K O (mTr (m2 ka kb ma mb op))) := PTi (pt_cmpR ho ha hb hm) fun _ _ _ h => tOp_of hs (tTr h)
theorem t_val {m : M} (h : PE X e (tE X.K O m .fz)) (he : ∀ whole, isTrue e X.env whole = (do let v ← whole; standAt e.pos; holding [v] (truthy v)) := by intro _; rfl) : PT X e (tT X.K O (mTr m)) :=
  PTi (pt_val h he) fun _ _ _ h => tTr h
variable {ta tb : MT} {rest : List Expr} {pos : Pos}
def mAnd (a b : MT) : MT := fun ρ => (a ρ).bind fun p => if p.1 = true then b p.2 else some (false, p.2)
def mOr (a b : MT) : MT := fun ρ => (a ρ).bind fun p => if p.1 = true then some (true, p.2) else b p.2
def mNot (a : MT) : MT := fun ρ => (a ρ).map fun p => (!p.1, p.2)
theorem w_and1 (ha : PT X a (tT X.K O ta)) : PW X (.BoolOp .And [a] pos) (tT X.K O ta) := pw_and1 ha
theorem w_or1 (ha : PT X a (tT X.K O ta)) : PW X (.BoolOp .Or [a] pos) (tT X.K O ta) := pw_or1 ha
theorem w_and (ha : PT X a (tT X.K O ta)) (hb : PW X (.BoolOp .And (b :: rest) pos) (tT X.K O tb)) : PW X (.BoolOp .And (a :: b :: rest) pos) (tT X.K O (mAnd ta tb)) := by
  refine PWi (pw_and ha hb) fun σ H Q h => ?_
  obtain ⟨F, ρ, c, ρ', ok, hm, q⟩ := h
  obtain ⟨⟨c1, ρ1⟩, h1, h2⟩ := bind_some hm
  refine ⟨F, ρ, c1, ρ1, ok, h1, fun F1 H1 ok1 st1 => ?_⟩
  cases c1 with
  | true =>
    rw [if_pos rfl] at h2 ⊢
    exact ⟨F1, ρ1, c, ρ', ok1, h2, fun F2 H2 ok2 st2 => q F2 H2 ok2 (st1.trans st2)⟩
  | false =>
    rw [if_neg Bool.false_ne_true] at h2 ⊢
    cases h2
    exact q F1 H1 ok1 st1
theorem w_or (ha : PT X a (tT X.K O ta)) (hb : PW X (.BoolOp .Or (b :: rest) pos) (tT X.K O tb)) : PW X (.BoolOp .Or (a :: b :: rest) pos) (tT X.K O (mOr ta tb)) := by
  refine PWi (pw_or ha hb) fun σ H Q h => ?_
  obtain ⟨F, ρ, c, ρ', ok, hm, q⟩ := h
  obtain ⟨⟨c1, ρ1⟩, h1, h2⟩ := bind_some hm
  refine ⟨F, ρ, c1, ρ1, ok, h1, fun F1 H1 ok1 st1 => ?_⟩
  cases c1 with
  | false =>
    rw [if_neg Bool.false_ne_true] at h2 ⊢
    exact ⟨F1, ρ1, c, ρ', ok1, h2, fun F2 H2 ok2 st2 => q F2 H2 ok2 (st1.trans st2)⟩
  | true =>
    rw [if_pos rfl] at h2 ⊢
    cases h2
    exact q F1 H1 ok1 st1
theorem t_not (ha : PT X a (tT X.K O ta)) : PT X (.UnaryOp .Not a pos) (tT X.K O (mNot ta)) := by
  refine PTi (pt_not ha) fun σ H Q h => ?_
  obtain ⟨F, ρ, c, ρ', ok, hm, q⟩ := h
  obtain ⟨⟨c1, ρ1⟩, h1, h2⟩ := map_some hm
  cases h2
  exact ⟨F, ρ, c1, ρ1, ok, h1, fun F1 H1 ok1 st1 => q F1 H1 ok1 st1⟩
def mAndV (a b : M) : M := fun ρ => (mTr a ρ).bind fun p => if p.1 = true then b p.2 else some (.bool false, p.2)
def mOrV (a b : M) : M := fun ρ => (mTr a ρ).bind fun p => if p.1 = true then some (.bool true, p.2) else b p.2
def mNotV (a : M) : M := fun ρ => (mTr a ρ).map fun p => (.bool (!p.1), p.2)
theorem e_one {bo} (h : PE X a (tE X.K O ma .fz)) : PE X (.BoolOp bo [a] pos) (tE X.K O ma .fz) := pe_one h
theorem e_and (ha : PE X a (tE X.K O ma .fz)) (hb : PE X (.BoolOp .And (b :: rest) pos) (tE X.K O mb .fz)) : PE X (.BoolOp .And (a :: b :: rest) pos) (tE X.K O (mAndV ma mb) .fz) := by
  refine PEi (pe_and ha hb) fun σ H Q h => ?_
  obtain ⟨F, ρ, d, ρ', ok, hm, q⟩ := h
  obtain ⟨⟨c1, ρ1⟩, h1, h2⟩ := bind_some hm
  refine ⟨F, ρ, _, ρ1, ok, tr_some h1, fun v F1 H1 ok1 st1 r1 => ⟨c1, r1, ?_⟩⟩
  cases c1 with
  | true =>
    rw [if_pos rfl] at h2 ⊢
    exact ⟨F1, ρ1, d, ρ', ok1, h2, fun v F2 H2 ok2 st2 r2 => q v F2 H2 ok2 (st1.trans st2) (r2.pre st1)⟩
  | false =>
    rw [if_neg Bool.false_ne_true] at h2 ⊢
    cases h2
    exact q _ F1 H1 ok1 st1 rfl
theorem e_or (ha : PE X a (tE X.K O ma .fz)) (hb : PE X (.BoolOp .Or (b :: rest) pos) (tE X.K O mb .fz)) : PE X (.BoolOp .Or (a :: b :: rest) pos) (tE X.K O (mOrV ma mb) .fz) := by
  refine PEi (pe_or ha hb) fun σ H Q h => ?_
  obtain ⟨F, ρ, d, ρ', ok, hm, q⟩ := h
  obtain ⟨⟨c1, ρ1⟩, h1, h2⟩ := bind_some hm
  refine ⟨F, ρ, _, ρ1, ok, tr_some h1, fun v F1 H1 ok1 st1 r1 => ⟨c1, r1, ?_⟩⟩
  cases c1 with
  | false =>
    rw [if_neg Bool.false_ne_true] at h2 ⊢
    exact ⟨F1, ρ1, d, ρ', ok1, h2, fun v F2 H2 ok2 st2 r2 => q v F2 H2 ok2 (st1.trans st2) (r2.pre st1)⟩
  | true =>
    rw [if_pos rfl] at h2 ⊢
    cases h2
    exact q _ F1 H1 ok1 st1 rfl
theorem e_not (ha : PE X a (tE X.K O ma .fz)) : PE X (.UnaryOp .Not a pos) (tE X.K O (mNotV ma) .fz) := by
  refine PEi (pe_not ha) fun σ H Q h => ?_
  obtain ⟨F, ρ, d, ρ', ok, hm, q⟩ := h
  obtain ⟨⟨c1, ρ1⟩, h1, h2⟩ := map_some hm
  cases h2
  exact ⟨F, ρ, _, ρ1, ok, tr_some h1, fun v F1 H1 ok1 st1 r1 => ⟨c1, r1, q _ F1 H1 ok1 st1 rfl⟩⟩
def mIf (t : MT) (a b : M) : M := fun ρ => (t ρ).bind fun p => if p.1 = true then a p.2 else b p.2
theorem e_if {c : Expr} (hc : PT X c (tT X.K O ta)) (ha : PE X a (tE X.K O ma k)) (hb : PE X b (tE X.K O mb k)) : PE X (.IfExp c a b pos) (tE X.K O (mIf ta ma mb) k) := by
  refine PEi (pe_ifExp hc ha hb) fun σ H Q h => ?_
  obtain ⟨F, ρ, d, ρ', ok, hm, q⟩ := h
  obtain ⟨⟨c1, ρ1⟩, h1, h2⟩ := bind_some hm
  refine ⟨F, ρ, c1, ρ1, ok, h1, fun F1 H1 ok1 st1 => ?_⟩
  cases c1 with
  | true =>
    rw [if_pos rfl] at h2 ⊢
    exact ⟨F1, ρ1, d, ρ', ok1, h2, fun v F2 H2 ok2 st2 r2 => q v F2 H2 ok2 (st1.trans st2) (r2.pre st1)⟩
  | false =>
    rw [if_neg Bool.false_ne_true] at h2 ⊢
    exact ⟨F1, ρ1, d, ρ', ok1, h2, fun v F2 H2 ok2 st2 r2 => q v F2 H2 ok2 (st1.trans st2) (r2.pre st1)⟩
end
section
variable {K : PySem.W.Frag} {F H : Hp}
theorem Pur.frozen (s : Same F H) {p : Addr} (hp : H p = none) (o : HO) : Pur F H (upd F p o) (upd H p o) := by
  have fp : F p = none := s.free hp
  refine ⟨fun b u e => ?_, .of fun b u e => ?_, fun b u e => ?_, fun b u e f => ?_⟩
  · rw [upd_ne (ne_of_none e fp)]
    exact e
  · rw [upd_ne (ne_of_none e hp)]
    exact e
  · by_cases z : b = p
    · subst z
      rw [upd_same] at e ⊢
      exact e
    · rw [upd_ne z] at e ⊢
      exact s b u e
  · rw [upd_ne (ne_of_none e hp)]
    exact f
theorem Pur.owned (s : Same F H) {p : Addr} (hp : H p = none) (o : HO) : Pur F H F (upd H p o) := by
  refine ⟨.refl _, .of fun b u e => ?_, fun b u e => ?_, fun b u e f => f⟩
  · rw [upd_ne (ne_of_none e hp)]
    exact e
  · rw [upd_ne (ne_of_none e (s.free hp))]
    exact s b u e
theorem Post.now {d : D} {v : V} {Q : VK} (s : Same F H) (q : Post K F H .fz d Q) (r : Rp K F d v) : Q v H := q v F H (.refl s) r
theorem Post.tup {ds : List D} {vs : List V} {Q : VK} (s : Same F H) (q : Post K F H .fz (.tuple ds) Q) (r : RpA K F ds vs) : ∀ p, H p = none → Q (.ref p) (upd H p (.tup vs)) := fun p hp => by
  have pu := Pur.frozen s hp (.tup vs)
  exact q (.ref p) _ _ pu ⟨p, vs, rfl, .inl (.inl upd_same), r.mono pu.ex⟩
theorem Post.lst {ds : List D} {vs : List V} {Q : VK} (s : Same F H) (q : Post K F H .ow (.list ds) Q) (r : RpA K F ds vs) : ∀ p, H p = none → Q (.ref p) (upd H p (.lst vs)) := fun p hp => by
  have pu := Pur.owned s hp (.lst vs)
  exact q (.ref p) _ _ pu ⟨p, rfl, s.free hp, ⟨.lst vs, upd_same, vs, rfl, r⟩, hp⟩
theorem VwA.one {d : D} {vs : List V} (h : VwA K F H [d] vs) : ∃ v, vs = [v] ∧ Vw K F H d v := by
  obtain ⟨v, r, e, h1, h2⟩ := h
  have h2 : r = [] := h2
  rw [h2] at e
  exact ⟨v, e, h1⟩
theorem VwA.two {d e : D} {vs : List V} (h : VwA K F H [d, e] vs) : ∃ v u, vs = [v, u] ∧ Vw K F H d v ∧ Vw K F H e u := by
  obtain ⟨v, r, e1, h1, h2⟩ := h
  obtain ⟨u, rfl, h3⟩ := h2.one
  exact ⟨v, u, e1, h1, h3⟩
end
def allFz : List Ak → Bool
  | [] => true
  | k :: ks => decide (k = .fz) && allFz ks
theorem Rss.fz {K : PySem.W.Frag} {O : List Kd} {w w' : Wd} : ∀ {ks : List Ak} {ds : List D} {vs : List V}, allFz ks = true → Rss K O w w' ks ds vs → RpA K w'.F ds vs ∧ ks.length = vs.length
  | [], _, _, _, ⟨h1, h2⟩ => by
    subst h1 h2
    exact ⟨rfl, rfl⟩
  | k :: ks, _, _, h, ⟨d, ds', v, vs', h1, h2, h3, h4⟩ => by
    subst h1 h2
    have hb := Bool.and_eq_true_iff.mp (show (decide (k = .fz) && allFz ks) = true from h)
    have e := of_decide_eq_true hb.1
    subst e
    obtain ⟨r1, r2⟩ := h4.fz hb.2
    exact ⟨.cons h3 r1, by rw [List.length_cons, List.length_cons, r2]⟩
def mTup (ma : MA) : M := fun ρ => (ma ρ).map fun p => (.tuple p.1, p.2)
def mLst (ma : MA) : M := fun ρ => (ma ρ).map fun p => (.list p.1, p.2)
section
variable {X : Cx} {O : List Kd} {es : List Expr} {e a b : Expr} {ma : MA} {m mb : M} {ks : List Ak} {pos : Pos}
theorem e_tup {c} (h : PA X es (tA X.K O ma ks)) (hk : allFz ks = true := by rfl) (hn : ks.length ≤ 1000 := by decide) : PE X (.Tuple es c pos) (tE X.K O (mTup ma) .fz) := by
  refine PEi (pe_tup h) fun σ H Q q => ?_
  obtain ⟨F, ρ, d, ρ', ok, hm, q⟩ := q
  obtain ⟨⟨ds, ρ1⟩, h1, h2⟩ := map_some hm
  cases h2
  refine ⟨F, ρ, ds, ρ1, ok, h1, fun vs F1 H1 ok1 st1 r1 => ?_⟩
  obtain ⟨r, hl⟩ := r1.fz hk
  refine ⟨Nat.le_trans (by omega : vs.length ≤ 1000) (by decide), Post.tup (K := X.K) (ds := ds) ok1.sub (fun v F2 H2 pu r2 => ?_) r⟩
  obtain ⟨ok2, st2⟩ := ok1.pur pu
  exact q v F2 H2 ok2 (st1.trans st2) ((r2.rs ok1 st2).pre st1)
theorem e_lst (h : PA X es (tA X.K O ma ks)) (hk : allFz ks = true := by rfl) (hn : ks.length ≤ 1000 := by decide) : PE X (.List es pos) (tE X.K O (mLst ma) .ow) := by
  refine PEi (pe_lst h) fun σ H Q q => ?_
  obtain ⟨F, ρ, d, ρ', ok, hm, q⟩ := q
  obtain ⟨⟨ds, ρ1⟩, h1, h2⟩ := map_some hm
  cases h2
  refine ⟨F, ρ, ds, ρ1, ok, h1, fun vs F1 H1 ok1 st1 r1 => ?_⟩
  obtain ⟨r, hl⟩ := r1.fz hk
  refine ⟨Nat.le_trans (by omega : vs.length ≤ 1000) (by decide), Post.lst (K := X.K) (ds := ds) ok1.sub (fun v F2 H2 pu r2 => ?_) r⟩
  obtain ⟨ok2, st2⟩ := ok1.pur pu
  exact q v F2 H2 ok2 (st1.trans st2) ((r2.rs ok1 st2).pre st1)
end
section
variable {K : PySem.W.Frag}
def opI (f : Int → Int → D) : List D → Option D
  | [.int i, .int j] => some (f i j)
  | _ => none
def opIc (c : Int → Int → Bool) (f : Int → Int → D) : List D → Option D
  | [.int i, .int j] => if c i j = true then some (f i j) else none
  | _ => none
theorem sI0 {g : Int → Int → V} {f : Int → Int → D} (hg : ∀ F i j, Rp K F (f i j) (g i j)) : LSem K (rL2 (rI0 g)) (opI f) .fz := by
  intro F H ds vs d Q s hv ho q
  unfold opI at ho
  split at ho
  · rename_i i j
    cases ho
    obtain ⟨v, u, e, h1, h2⟩ := hv.two
    exact ⟨v, u, e, i, j, h1, h2, q.now s (hg F i j)⟩
  · cases ho
theorem sIc {C : Int → Int → Prop} {c : Int → Int → Bool} {g : Int → Int → V} {f : Int → Int → D} (hc : ∀ i j, c i j = true → C i j) (hg : ∀ F i j, Rp K F (f i j) (g i j)) : LSem K (rL2 (rI C g)) (opIc c f) .fz := by
  intro F H ds vs d Q s hv ho q
  unfold opIc at ho
  split at ho
  · rename_i i j
    split at ho
    · rename_i hij
      cases ho
      obtain ⟨v, u, e, h1, h2⟩ := hv.two
      exact ⟨v, u, e, i, j, h1, h2, hc i j hij, q.now s (hg F i j)⟩
    · cases ho
  · cases ho
def dAdd := opI fun i j => .int (i + j)
def dSub := opI fun i j => .int (i - j)
def dMul := opIc (fun i j => decide (i.natAbs.log2 + j.natAbs.log2 < 1000000)) fun i j => .int (i * j)
def dDiv := opIc (fun i j => decide (j ≠ 0 ∧ j.natAbs < 1073741824)) fun i j => .int (i.fdiv j)
def dMod := opIc (fun i j => decide (j ≠ 0)) fun i j => .int (i.fmod j)
def dPow := opIc (fun i j => decide (0 ≤ j ∧ j ≤ 1000000 ∧ i.natAbs < 2 ^ 64)) fun i j => .int (i ^ j.toNat)
def dLt := opI fun i j => .bool (decide (i < j))
def dLe := opI fun i j => .bool (decide (i ≤ j))
def dGt := opI fun i j => .bool (decide (j < i))
def dGe := opI fun i j => .bool (decide (j ≤ i))
theorem s_add : LSem K (rL2 (rI0 fun i j => .int (i + j))) dAdd .fz := sI0 fun _ _ _ => rfl
theorem s_sub : LSem K (rL2 (rI0 fun i j => .int (i - j))) dSub .fz := sI0 fun _ _ _ => rfl
theorem s_mul : LSem K (rL2 (rI CMulW fun i j => .int (i * j))) dMul .fz := sIc (fun i j h => of_decide_eq_true (p := i.natAbs.log2 + j.natAbs.log2 < 1000000) h) fun _ _ _ => rfl
theorem s_mod : LSem K (rL2 (rI (fun _ j => j ≠ 0) fun i j => .int (i.fmod j))) dMod .fz := sIc (fun _ _ h => of_decide_eq_true h) fun _ _ _ => rfl
theorem s_pow : LSem K (rL2 (rI CPow fun i j => .int (i ^ j.toNat))) dPow .fz := sIc (fun i j h => of_decide_eq_true (p := 0 ≤ j ∧ j ≤ 1000000 ∧ i.natAbs < 2 ^ 64) h) fun _ _ _ => rfl
theorem s_lt : LSem K (rL2 (rI0 fun i j => .bl (decide (i < j)))) dLt .fz := sI0 fun _ _ _ => rfl
theorem s_gt : LSem K (rL2 (rI0 fun i j => .bl (decide (j < i)))) dGt .fz := sI0 fun _ _ _ => rfl
theorem s_ge : LSem K (rL2 (rI0 fun i j => .bl (decide (j ≤ i)))) dGe .fz := sI0 fun _ _ _ => rfl
mutual
theorem Rp.dp {F : Hp} : ∀ (d : D) (v : V), d.hasDict = false → Rp K F d v → Dp K F v d
  | .none, _, _, h => by
    have h : _ = V.non := h
    rw [h]
    exact .non
  | .bool b, _, _, h => by
    have h : _ = V.bl b := h
    rw [h]
    exact .bl b
  | .int i, _, _, h => by
    have h : _ = V.int i := h
    rw [h]
    exact .int i
  | .str x, _, _, h => by
    have h : _ = V.str x := h
    rw [h]
    exact .str x
  | .list ds, _, z, ⟨a, xs, e, h1, h2⟩ => by
    rw [e]
    exact .lst h1 (RpA.dp ds xs (by simpa [PyData.hasDict] using z) h2)
  | .tuple ds, _, z, ⟨a, xs, e, h1, h2⟩ => by
    rw [e]
    exact .tup h1 (RpA.dp ds xs (by simpa [PyData.hasDict] using z) h2)
  | .dict _, _, z, _ => by simp [PyData.hasDict] at z
theorem RpA.dp {F : Hp} : ∀ (ds : List D) (vs : List V), PyData.hasDictAll ds = false → RpA K F ds vs → DpAll K F vs ds
  | [], _, _, h => by
    have h : _ = [] := h
    rw [h]
    exact .nil
  | d :: ds, _, z, ⟨v, vs, e, h1, h2⟩ => by
    rw [e]
    have z2 : d.hasDict = false ∧ PyData.hasDictAll ds = false := by simpa [PyData.hasDictAll] using z
    exact .cons (Rp.dp d v z2.1 h1) (RpA.dp ds vs z2.2 h2)
end
mutual
theorem dp_mono {F H : Hp} (s : Same F H) : ∀ (d : D) (v : V), Dp K F v d → Dp K H v d
  | .none, _, h => by cases h; exact .non
  | .bool b, _, h => by cases h; exact .bl b
  | .int i, _, h => by cases h; exact .int i
  | .str x, _, h => by cases h; exact .str x
  | .list ds, _, h => by
    cases h with
    | lst h1 h2 => exact .lst (s.seq h1) (dpa_mono s ds _ h2)
  | .tuple ds, _, h => by
    cases h with
    | tup h1 h2 => exact .tup (same_sqt s h1) (dpa_mono s ds _ h2)
  | .dict _, _, h => by cases h
theorem dpa_mono {F H : Hp} (s : Same F H) : ∀ (ds : List D) (vs : List V), DpAll K F vs ds → DpAll K H vs ds
  | [], _, h => by cases h; exact .nil
  | d :: ds, _, h => by
    cases h with
    | cons h1 h2 => exact .cons (dp_mono s d _ h1) (dpa_mono s ds _ h2)
end
theorem Vw.dp {F H : Hp} (s : Same F H) : ∀ {d : D} {v : V}, d.hasDict = false → Vw K F H d v → Dp K H v d
  | .none, _, z, h => dp_mono s _ _ (Rp.dp _ _ z h)
  | .bool b, _, z, h => dp_mono s _ _ (Rp.dp _ _ z h)
  | .int i, _, z, h => dp_mono s _ _ (Rp.dp _ _ z h)
  | .str x, _, z, h => dp_mono s _ _ (Rp.dp _ _ z h)
  | .tuple ds, _, z, h => dp_mono s _ _ (Rp.dp _ _ z h)
  | .dict _, _, z, _ => by simp [PyData.hasDict] at z
  | .list ds, _, z, ⟨a, xs, e, h1, h2⟩ => by
    rw [e]
    exact .lst h1 (dpa_mono s ds xs (RpA.dp ds xs (by simpa [PyData.hasDict] using z) h2))
def eqOk (d : D) : Bool := SeqAt.shaped d && !d.hasDict
def dEq : List D → Option D
  | [a, b] => if (eqOk a && eqOk b) = true then some (.bool (PyData.eqv a b)) else none
  | _ => none
def dNe : List D → Option D
  | [a, b] => if (eqOk a && eqOk b) = true then some (.bool (!PyData.eqv a b)) else none
  | _ => none
theorem eqOk_of {d : D} (h : eqOk d = true) : SeqAt.shaped d = true ∧ d.hasDict = false := by
  obtain ⟨h1, h2⟩ := Bool.and_eq_true_iff.mp h
  exact ⟨h1, by simpa using h2⟩
theorem s_eq : LSem K (rL2 (rEqD K)) dEq .fz := by
  intro F H ds vs d Q s hv ho q
  unfold dEq at ho
  split at ho
  · rename_i a b
    split at ho
    · rename_i h
      cases ho
      obtain ⟨v, u, e, h1, h2⟩ := hv.two
      obtain ⟨ha, hb⟩ := Bool.and_eq_true_iff.mp h
      obtain ⟨a1, a2⟩ := eqOk_of ha
      obtain ⟨b1, b2⟩ := eqOk_of hb
      exact ⟨v, u, e, a, b, h1.dp s a2, h2.dp s b2, a1, b1, q.now s rfl⟩
    · cases ho
  · cases ho
theorem s_ne : LSem K (rL2 (rNeD K)) dNe .fz := by
  intro F H ds vs d Q s hv ho q
  unfold dNe at ho
  split at ho
  · rename_i a b
    split at ho
    · rename_i h
      cases ho
      obtain ⟨v, u, e, h1, h2⟩ := hv.two
      obtain ⟨ha, hb⟩ := Bool.and_eq_true_iff.mp h
      obtain ⟨a1, a2⟩ := eqOk_of ha
      obtain ⟨b1, b2⟩ := eqOk_of hb
      exact ⟨v, u, e, a, b, h1.dp s a2, h2.dp s b2, a1, b1, q.now s rfl⟩
    · cases ho
  · cases ho
def dIsN : List D → Option D
  | [d, .none] => some (.bool (match d with | .none => true | _ => false))
  | _ => none
def dNotN : List D → Option D
  | [d, .none] => some (.bool (match d with | .none => false | _ => true))
  | _ => none
theorem vw_non {F H : Hp} : ∀ {d : D} {v : V}, Vw K F H d v → decide (v = V.non) = (match d with | .none => true | _ => false)
  | .none, _, h => by
    have h : _ = V.non := h
    rw [h]
    rfl
  | .bool b, _, h => by
    have h : _ = V.bl b := h
    rw [h]
    rfl
  | .int i, _, h => by
    have h : _ = V.int i := h
    rw [h]
    rfl
  | .str x, _, h => by
    have h : _ = V.str x := h
    rw [h]
    rfl
  | .list ds, _, ⟨a, xs, e, _⟩ => by
    rw [e]
    rfl
  | .tuple ds, _, ⟨a, xs, e, _⟩ => by
    rw [e]
    rfl
  | .dict ds, _, .inl ⟨a, xs, e, _⟩ => by
    rw [e]
    rfl
  | .dict ds, _, .inr h => by
    obtain ⟨a, e⟩ := h.ref
    rw [e]
    rfl
theorem s_isN : LSem K (rL2 rIsN) dIsN .fz := by
  intro F H ds vs d Q s hv ho q
  unfold dIsN at ho
  split at ho
  · rename_i a
    cases ho
    obtain ⟨v, u, e, h1, h2⟩ := hv.two
    refine ⟨v, u, e, h2, q.now s ?_⟩
    show V.bl _ = V.bl _
    rw [vw_non h1]
  · cases ho
theorem s_notN : LSem K (rL2 rNotN) dNotN .fz := by
  intro F H ds vs d Q s hv ho q
  unfold dNotN at ho
  split at ho
  · rename_i a
    cases ho
    obtain ⟨v, u, e, h1, h2⟩ := hv.two
    refine ⟨v, u, e, h2, q.now s ?_⟩
    show V.bl _ = V.bl _
    rw [vw_non h1]
    cases a <;> rfl
  · cases ho
end
inductive Fl where
  | nx | bk | ct | rt (d : D)
abbrev MS := En → Option (Fl × En)
abbrev MG := D → En → Option En
abbrev MI := En → Option (List D × En)
section
variable {K : PySem.W.Frag} {O : List Kd} {w : Wd} {i : Nat} {d : D} {v : V}
theorem set_get {α : Type} {l : List α} {i j : Nat} {a b : α} (h : (l.set i a)[j]? = some b) : (i = j ∧ b = a) ∨ (i ≠ j ∧ l[j]? = some b) := by
  by_cases e : i = j
  · subst e
    rw [List.getElem?_set] at h
    split at h
    · split at h
      · exact .inl ⟨rfl, (Option.some.inj h).symm⟩
      · cases h
    · contradiction
  · rw [List.getElem?_set_ne e] at h
    exact .inr ⟨e, h⟩
theorem own_set {p : Addr} {j : Nat} {σ : L2.St} {ρ : En} {F H F' : Hp} (hl : i < nl O) (hs : i < σ.length) (h0 : hasO O = false ∨ i ≠ oi O) (h : OwnAt O ⟨F', H, σ.set i (some v), ρ.set i (some d)⟩ j p) : (j = i ∧ v = .ref p ∧ ∃ k : Kd, O[i]? = some k ∧ k.own = true) ∨ (j ≠ i ∧ OwnAt O ⟨F, H, σ, ρ⟩ j p) := by
  obtain ⟨k, d', h1, h2, h3, h4⟩ := h
  by_cases e : i = j
  · subst e
    have h4 : sv O H (σ.set i (some v)) i = some (some (.ref p)) := h4
    rw [sv_set_eq hl hs] at h4
    exact .inl ⟨rfl, Option.some.inj (Option.some.inj h4), k, h1, h2⟩
  · have h4 : sv O H (σ.set i (some v)) j = some (some (.ref p)) := h4
    rw [sv_set_ne h0 e] at h4
    refine .inr ⟨fun z => e z.symm, k, d', h1, h2, ?_, h4⟩
    have h3 : (ρ.set i (some d))[j]? = some (some d') := h3
    rw [List.getElem?_set_ne e] at h3
    exact h3
theorem ObOk.set {w' : Wd} (h : ObOk K O w) (hi : i ≠ oi O) (e1 : w'.σ = w.σ.set i (some v)) (e2 : w'.H = w.H) (e3 : w'.F = w.F) (nf : ¬ Fp O w' (ob O w.σ)) : ObOk K O w' := by
  have e : ob O w'.σ = ob O w.σ := by rw [e1, ob_set hi]
  obtain ⟨a0, a1, ⟨C, dx, fs, a2, a3⟩, a4, _, a6⟩ := h
  exact ⟨by rw [e, e1, List.getElem?_set_ne hi]; exact a0, a1, ⟨C, dx, fs, by rw [e, e2]; exact a2, by rw [e, e2]; exact a3⟩, by rw [e, e3]; exact a4, by rw [e]; exact nf, by rw [e, e2]; exact a6⟩
theorem Ok.setFz (ok : Ok K O w) (hi : O[i]? = some Kd.fz) (hl : i < nl O) (h0 : hasO O = false ∨ i ≠ oi O) (r : Rp K w.F d v) : Ok K O ⟨w.F, w.H, w.σ.set i (some v), w.ρ.set i (some d)⟩ ∧ Stp O w ⟨w.F, w.H, w.σ.set i (some v), w.ρ.set i (some d)⟩ := by
  have hln : i < w.σ.length := by
    rw [ok.ls]
    exact hl
  have noi : ∀ {p : Addr} {j : Nat}, OwnAt O ⟨w.F, w.H, w.σ.set i (some v), w.ρ.set i (some d)⟩ j p → OwnAt O w j p := fun {p j} h => by
    rcases own_set (F := w.F) hl hln h0 h with ⟨_, _, k, h1, h2⟩ | ⟨_, h⟩
    · rw [hi] at h1
      cases h1
      cases h2
    · exact h
  have hob : hasO O = true → ob O (w.σ.set i (some v)) = ob O w.σ := fun e => by
    rcases h0 with h | h
    · rw [e] at h
      cases h
    · exact ob_set h
  refine ⟨⟨ok.sub, by show (w.σ.set i _).length = _; rw [List.length_set]; exact ok.ls, by show (w.ρ.set i _).length = _; rw [List.length_set]; exact ok.lr, fun j d' h1 h2 => ?_, fun j k d' h1 h2 h3 => ?_, fun a b p h1 h2 => ok.ap a b p (noi h1) (noi h2), fun e => ?_, ok.tb⟩,
    ⟨⟨.refl _, fun _ _ h _ _ => .of h, fun _ _ _ _ h => h, fun b ⟨j, h⟩ => .inl ⟨j, noi h⟩, fun j k h1 h2 => ?_, fun j k h1 h2 => ?_, fun _ _ _ _ _ _ _ _ => rfl, fun e => ⟨hob e, id⟩, fun _ h => h⟩, fun _ => rfl⟩⟩
  · rcases set_get (show (w.ρ.set i (some d))[j]? = _ from h2) with ⟨e, q⟩ | ⟨e, q⟩
    · subst e
      cases q
      exact ⟨v, sv_set_eq hl hln, r⟩
    · obtain ⟨u, g1, g2⟩ := ok.fz j d' h1 q
      exact ⟨u, (sv_set_ne h0 e).trans g1, g2⟩
  · rcases set_get (show (w.ρ.set i (some d))[j]? = _ from h3) with ⟨e, q⟩ | ⟨e, q⟩
    · subst e
      rw [hi] at h1
      cases h1
      cases h2
    · obtain ⟨p, g1, g2⟩ := ok.ow j k d' h1 h2 q
      exact ⟨p, (sv_set_ne h0 e).trans g1, g2⟩
  · have hi0 : i ≠ oi O := h0.resolve_left (by rw [e]; exact fun z => by cases z)
    exact (ok.obj e).set hi0 rfl rfl rfl fun ⟨j, h⟩ => (ok.obj e).nf ⟨j, noi h⟩
  · have e : i ≠ j := fun z => by
      subst z
      rw [hi] at h1
      cases h1
      cases h2
    exact sv_set_ne h0 e
  · have e : i ≠ j := fun z => by
      subst z
      rw [hi] at h1
      cases h1
      cases h2
    exact List.getElem?_set_ne e
theorem Ok.setOw {p : Addr} (ok : Ok K O w) (hi : O[i]? = some Kd.ow) (hl : i < nl O) (h0 : hasO O = false ∨ i ≠ oi O) (hF : w.F p = none) (r : OwnO K w.F w.H p d) (np : ¬ Fp O w p) (npo : hasO O = true → p ≠ ob O w.σ) :
    Ok K O ⟨w.F, w.H, w.σ.set i (some (.ref p)), w.ρ.set i (some d)⟩ ∧ (∀ b, Fp O ⟨w.F, w.H, w.σ.set i (some (.ref p)), w.ρ.set i (some d)⟩ b → b = p ∨ Fp O w b) ∧
    (∀ (j : Nat) (k : Kd), O[j]? = some k → k.pin = true → sv O w.H (w.σ.set i (some (.ref p))) j = w.sv O j ∧ (w.ρ.set i (some d))[j]? = w.ρ[j]?) ∧ (hasO O = true → ob O (w.σ.set i (some (.ref p))) = ob O w.σ) := by
  have hln : i < w.σ.length := by
    rw [ok.ls]
    exact hl
  have hob : hasO O = true → ob O (w.σ.set i (some (.ref p))) = ob O w.σ := fun e => by
    rcases h0 with h | h
    · rw [e] at h
      cases h
    · exact ob_set h
  have fpb : ∀ b, Fp O ⟨w.F, w.H, w.σ.set i (some (.ref p)), w.ρ.set i (some d)⟩ b → b = p ∨ Fp O w b := fun b ⟨j, h⟩ => by
    rcases own_set (F := w.F) hl hln h0 h with ⟨_, q, _⟩ | ⟨_, q⟩
    · cases q
      exact .inl rfl
    · exact .inr ⟨j, q⟩
  refine ⟨⟨ok.sub, by show (w.σ.set i _).length = _; rw [List.length_set]; exact ok.ls, by show (w.ρ.set i _).length = _; rw [List.length_set]; exact ok.lr, fun j d' h1 h2 => ?_, fun j k d' h1 h2 h3 => ?_, fun a b q h1 h2 => ?_, fun e => ?_, ok.tb⟩, fpb, fun j k h1 h2 => ?_, hob⟩
  · rcases set_get (show (w.ρ.set i (some d))[j]? = _ from h2) with ⟨e, q⟩ | ⟨e, q⟩
    · subst e
      rw [hi] at h1
      cases h1
    · obtain ⟨u, g1, g2⟩ := ok.fz j d' h1 q
      exact ⟨u, (sv_set_ne h0 e).trans g1, g2⟩
  · rcases set_get (show (w.ρ.set i (some d))[j]? = _ from h3) with ⟨e, q⟩ | ⟨e, q⟩
    · subst e
      cases q
      exact ⟨p, sv_set_eq hl hln, hF, r⟩
    · obtain ⟨c, g1, g2⟩ := ok.ow j k d' h1 h2 q
      exact ⟨c, (sv_set_ne h0 e).trans g1, g2⟩
  · rcases own_set (F := w.F) hl hln h0 h1 with ⟨e1, q1, _⟩ | ⟨e1, q1⟩ <;> rcases own_set (F := w.F) hl hln h0 h2 with ⟨e2, q2, _⟩ | ⟨e2, q2⟩
    · rw [e1, e2]
    · cases q1
      exact (np ⟨b, q2⟩).elim
    · cases q2
      exact (np ⟨a, q1⟩).elim
    · exact ok.ap a b q q1 q2
  · have hi0 : i ≠ oi O := h0.resolve_left (by rw [e]; exact fun z => by cases z)
    refine (ok.obj e).set hi0 rfl rfl rfl fun h => ?_
    rcases fpb _ h with z | z
    · exact npo e z.symm
    · exact (ok.obj e).nf z
  · have e : i ≠ j := fun z => by
      subst z
      rw [hi] at h1
      cases h1
      cases h2
    exact ⟨sv_set_ne h0 e, List.getElem?_set_ne e⟩
theorem Ok.chg {p : Addr} {o : HO} {d0 : D} {k : Kd} (ok : Ok K O w) (hi : O[i]? = some k) (hk : k.own = true) (hl : k.lock = false) (h0 : w.ρ[i]? = some (some d0)) (hs : w.sv O i = some (some (.ref p))) (hF : w.F p = none) (r : OwnC K w.F o d) :
    Ok K O ⟨w.F, upd w.H p o, w.σ, w.ρ.set i (some d)⟩ ∧ Stp O w ⟨w.F, upd w.H p o, w.σ, w.ρ.set i (some d)⟩ := by
  have at_i : OwnAt O w i p := ⟨k, d0, hi, hk, h0, hs⟩
  have hlen : i < w.ρ.length := (List.getElem?_eq_some_iff.mp h0).1
  have npo : hasO O = true → ob O w.σ ≠ p := fun e z => (ok.obj e).nf (by rw [z]; exact ⟨i, at_i⟩)
  have hO : hasO O = true → upd w.H p o (ob O w.σ) = w.H (ob O w.σ) := fun e => upd_ne (npo e)
  have hsv : ∀ j, sv O (upd w.H p o) w.σ j = w.sv O j := fun j => sv_same hO
  have back : ∀ {q : Addr} {j : Nat}, OwnAt O ⟨w.F, upd w.H p o, w.σ, w.ρ.set i (some d)⟩ j q → OwnAt O w j q := fun {q j} ⟨k', d', h1, h2, h3, h4⟩ => by
    have h4 : sv O (upd w.H p o) w.σ j = some (some (.ref q)) := h4
    rw [hsv] at h4
    rcases set_get (show (w.ρ.set i (some d))[j]? = _ from h3) with ⟨e, z⟩ | ⟨e, z⟩
    · subst e
      exact ⟨k', d0, h1, h2, h0, h4⟩
    · exact ⟨k', d', h1, h2, z, h4⟩
  obtain ⟨o9, h9, n9⟩ : ∃ o', w.H p = some o' ∧ ((∀ ps, o' ≠ .tbl ps) ∧ ∀ φ, o' ≠ .ext φ) := by
    obtain ⟨q, y1, y2, u, y3, y4⟩ := ok.ow i k d0 hi hk h0
    rw [hs] at y1
    cases y1
    exact ⟨u, y3, y4.nt⟩
  refine ⟨⟨fun b u hb => ?_, ok.ls, by show (w.ρ.set i _).length = _; rw [List.length_set]; exact ok.lr, fun j d' h1 h2 => ?_, fun j k' d' h1 h2 h3 => ?_, fun a b q h1 h2 => ok.ap a b q (back h1) (back h2), fun e => ?_, fun P hP => ok_put h9 n9 (ok.tb P hP)⟩,
    ⟨⟨.refl _, fun b u hb z _ => ?_, fun _ _ _ _ h => h, fun b ⟨j, h⟩ => .inl ⟨j, back h⟩, fun j _ _ _ => hsv j, fun j k' h1 h2 => ?_, fun j k' q d' h1 h2 h3 h4 => ?_, fun e => ⟨rfl, fun z y => ?_⟩, fun P h => tab_put h9 n9 h⟩, hO⟩⟩
  · show upd w.H p o b = some u
    rw [upd_ne (ne_of_none hb hF)]
    exact ok.sub b u hb
  · rcases set_get (show (w.ρ.set i (some d))[j]? = _ from h2) with ⟨e, z⟩ | ⟨e, z⟩
    · subst e
      rw [hi] at h1
      cases h1
      cases hk
    · obtain ⟨u, g1, g2⟩ := ok.fz j d' h1 z
      exact ⟨u, (hsv j).trans g1, g2⟩
  · rcases set_get (show (w.ρ.set i (some d))[j]? = _ from h3) with ⟨e, z⟩ | ⟨e, z⟩
    · subst e
      cases z
      exact ⟨p, (hsv i).trans hs, hF, o, upd_same, r⟩
    · obtain ⟨c, g1, g2, u, g3, g4⟩ := ok.ow j k' d' h1 h2 z
      have hc : c ≠ p := fun y => by
        subst y
        exact e (ok.ap i j c at_i ⟨k', d', h1, h2, z, g1⟩)
      exact ⟨c, (hsv j).trans g1, g2, u, by show upd w.H p o c = _; rw [upd_ne hc]; exact g3, g4⟩
  · obtain ⟨a0, a1, ⟨C, dx, fs, a2, a3⟩, a4, a5, a6⟩ := ok.obj e
    have hd : dx ≠ p := fun z => by
      obtain ⟨q, y1, y2, u, y3, y4⟩ := ok.ow i k d0 hi hk h0
      rw [hs] at y1
      cases y1
      rw [← z, a3] at y3
      cases y3
      cases d0 <;> first | exact y4.elim | (obtain ⟨_, y5, _⟩ := y4; cases y5)
    exact ⟨a0, a1, ⟨C, dx, fs, (hO e).trans a2, by show upd w.H p o dx = _; rw [upd_ne hd]; exact a3⟩, a4, fun ⟨j, h⟩ => a5 ⟨j, back h⟩, fun C dx fs z => a6 C dx fs ((hO e).symm.trans z)⟩
  · refine .of ?_
    show upd w.H p o b = some u
    have hc : b ≠ p := fun y => by
      subst y
      exact z ⟨i, at_i⟩
    rw [upd_ne hc]
    exact hb
  · have e : i ≠ j := fun y => by
      subst y
      rw [hi] at h1
      cases h1
      rw [hl] at h2
      cases h2
    exact List.getElem?_set_ne e
  · have hq : q ≠ p := fun y => by
      subst y
      have e := ok.ap j i q ⟨k', d', h1, Kd.own_of h2, h3, h4⟩ at_i
      subst e
      rw [hi] at h1
      cases h1
      rw [hl] at h2
      cases h2
    exact upd_ne hq
  · have y : upd w.H p o (ob O w.σ) = none := y
    rw [hO e] at y
    exact z y
end
def tG (K : PySem.W.Frag) (O : List Kd) (g : MG) (is : List Nat) : TG := fun v σ H Q => ∃ F ρ d ρ', Ok K O ⟨F, H, σ, ρ⟩ ∧ Rp K F d v ∧ g d ρ = some ρ' ∧
  ∀ σ', Ok K O ⟨F, H, σ', ρ'⟩ → Stp O ⟨F, H, σ, ρ⟩ ⟨F, H, σ', ρ'⟩ → (∀ j, j ∉ is → σ'[j]? = σ[j]?) → Q σ' H
def tGs (K : PySem.W.Frag) (O : List Kd) (g : List D → En → Option En) (is : List Nat) : TGs := fun vs σ H Q => ∃ F ρ ds ρ', Ok K O ⟨F, H, σ, ρ⟩ ∧ RpA K F ds vs ∧ g ds ρ = some ρ' ∧
  ∀ σ', Ok K O ⟨F, H, σ', ρ'⟩ → Stp O ⟨F, H, σ, ρ⟩ ⟨F, H, σ', ρ'⟩ → (∀ j, j ∉ is → σ'[j]? = σ[j]?) → Q σ' H
def mgN (i : Nat) : MG := fun d ρ => some (ρ.set i (some d))
def mgNil : List D → En → Option En := fun ds ρ => match ds with
  | [] => some ρ
  | _ => none
def mgCons (g : MG) (r : List D → En → Option En) : List D → En → Option En := fun ds ρ => match ds with
  | d :: ds => (g d ρ).bind (r ds)
  | _ => none
def mgT (n : Nat) (r : List D → En → Option En) : MG := fun d ρ => match d with
  | .tuple ds => if ds.length = n then r ds ρ else none
  | _ => none
def mgL (n : Nat) (r : List D → En → Option En) : MG := fun d ρ => match d with
  | .list ds => if ds.length = n then r ds ρ else none
  | _ => none
section
variable {X : Cx} {O : List Kd} {e : Expr} {es : List Expr} {x : Str} {pos : Pos} {g : MG} {gs : List D → En → Option En} {is js : List Nat}
theorem PGi {t t' : TG} {tg : Expr} (h : PG X tg t) (k : ∀ v σ H Q, t' v σ H Q → t v σ H Q) : PG X tg t' := ⟨fun pins s σ H v u Q I r q => h.run pins s σ H v u Q I r (k v σ H Q q)⟩
theorem PGsi {t t' : TGs} {tg : List Expr} (h : PGs X tg t) (k : ∀ v σ H Q, t' v σ H Q → t v σ H Q) : PGs X tg t' := ⟨fun pins s σ H v u Q I r q => h.run pins s σ H v u Q I r (k v σ H Q q)⟩
theorem g_name (i : Nat) (hN : X.N.Nodup) (hO : O[i]? = some Kd.fz := by rfl) (hl : i < nl O := by decide) (h0 : hasO O = false ∨ i ≠ oi O := by decide) (hi : X.N[i]? = some x := by rfl) (hx : Loc X.env.scope x := by first | exact Or.inl rfl | exact Or.inr rfl) (hf : X.fn x = true ∨ X.env.scope.names.lookup x = some .local := by first | exact .inl rfl | exact .inr rfl | assumption) :
    PG X (.Name x pos) (tG X.K O (mgN i) [i]) := by
  refine PGi (pg_name hN hi hx hf) fun v σ H Q q => ?_
  obtain ⟨F, ρ, d, ρ', ok, r, hg, k⟩ := q
  cases hg
  obtain ⟨h1, h2⟩ := ok.setFz hO hl h0 r
  exact k _ h1 h2 fun j hj => List.getElem?_set_ne fun e => hj (by rw [e]; exact List.mem_singleton.mpr rfl)
theorem gs_nil : PGs X [] (tGs X.K O mgNil []) := by
  refine PGsi pgs_nil fun v σ H Q q => ?_
  obtain ⟨F, ρ, ds, ρ', ok, r, hg, k⟩ := q
  cases ds with
  | nil =>
    cases hg
    exact ⟨r, k σ ok (.refl _ _) fun _ _ => rfl⟩
  | cons d ds => cases hg
theorem gs_cons (h1 : PG X e (tG X.K O g is)) (h2 : PGs X es (tGs X.K O gs js)) (hs : (assignEach (e :: es) X.env).map (·.2) = assign e X.env :: (assignEach es X.env).map (·.2) := by rfl) : PGs X (e :: es) (tGs X.K O (mgCons g gs) (is ++ js)) := by
  refine PGsi (pgs_cons h1 h2 hs) fun v σ H Q q => ?_
  obtain ⟨F, ρ, ds, ρ', ok, r, hg, k⟩ := q
  cases ds with
  | nil => cases hg
  | cons d ds =>
    obtain ⟨v1, vs, e1, r1, r2⟩ := r
    obtain ⟨ρ1, g1, g2⟩ := bind_some hg
    refine ⟨v1, vs, e1, F, ρ, d, ρ1, ok, r1, g1, fun σ1 ok1 st1 c1 => ⟨F, ρ1, ds, ρ', ok1, r2, g2, fun σ2 ok2 st2 c2 => k σ2 ok2 (st1.trans st2) fun j hj => ?_⟩⟩
    rw [c2 j fun z => hj (List.mem_append_right _ z), c1 j fun z => hj (List.mem_append_left _ z)]
theorem g_tup {n c : Nat} (hc : X.calm = true) (h : PGs X es (tGs X.K O gs is)) (hn : (assignEach es X.env).length = n := by rfl) (hst : (assignEach es X.env).findIdx? (·.1) = none := by rfl) : PG X (.Tuple es c pos) (tG X.K O (mgT n gs) is) := by
  refine PGi (pg_tup hc h hn hst) fun v σ H Q q => ?_
  obtain ⟨F, ρ, d, ρ', ok, r, hg, k⟩ := q
  unfold mgT at hg
  split at hg
  · rename_i ds
    split at hg
    · rename_i hl
      obtain ⟨a, xs, e1, h1, h2⟩ := r
      exact ⟨a, xs, e1, same_sqt ok.sub h1, by rw [h2.length]; exact hl, F, ρ, ds, ρ', ok, h2, hg, k⟩
    · cases hg
  · cases hg
end
def tS (K : PySem.W.Frag) (O : List Kd) (m : MS) (r : Ak) : TS := fun Dn σ H => ∃ F ρ fl ρ', Ok K O ⟨F, H, σ, ρ⟩ ∧ m ρ = some (fl, ρ') ∧ (match fl with
  | .nx => ∀ σ' F' H', Ok K O ⟨F', H', σ', ρ'⟩ → StpS O ⟨F, H, σ, ρ⟩ ⟨F', H', σ', ρ'⟩ → Dn.nx σ' H'
  | .bk => ∀ σ' F' H', Ok K O ⟨F', H', σ', ρ'⟩ → StpS O ⟨F, H, σ, ρ⟩ ⟨F', H', σ', ρ'⟩ → Dn.bk σ' H'
  | .ct => ∀ σ' F' H', Ok K O ⟨F', H', σ', ρ'⟩ → StpS O ⟨F, H, σ, ρ⟩ ⟨F', H', σ', ρ'⟩ → Dn.ct σ' H'
  | .rt d => ∀ v σ' F' H', Ok K O ⟨F', H', σ', ρ'⟩ → StpS O ⟨F, H, σ, ρ⟩ ⟨F', H', σ', ρ'⟩ → Rs K O ⟨F, H, σ, ρ⟩ ⟨F', H', σ', ρ'⟩ r d v → Dn.rt v H')
theorem PSi {X : Cx} {st : Stmt} {t t' : TS} (h : PS X st t) (k : ∀ Dn σ H, t' Dn σ H → t Dn σ H) : PS X st t' := ⟨fun pins s σ H Dn I q => h.run pins s σ H Dn I (k Dn σ H q)⟩
theorem PSsi {X : Cx} {st : List Stmt} {t t' : TS} (h : PSs X st t) (k : ∀ Dn σ H, t' Dn σ H → t Dn σ H) : PSs X st t' := ⟨fun pins s σ H Dn I q => h.run pins s σ H Dn I (k Dn σ H q)⟩
def mSkip : MS := fun ρ => some (.nx, ρ)
def mBreak : MS := fun ρ => some (.bk, ρ)
def mCont : MS := fun ρ => some (.ct, ρ)
def mSeq (a b : MS) : MS := fun ρ => (a ρ).bind fun p => match p.1 with
  | .nx => b p.2
  | f => some (f, p.2)
def mDrop (m : M) : MS := fun ρ => (m ρ).map fun p => (.nx, p.2)
def mRet (m : M) : MS := fun ρ => (m ρ).map fun p => (.rt p.1, p.2)
def mIte (c : MT) (a b : MS) : MS := fun ρ => (c ρ).bind fun p => if p.1 = true then a p.2 else b p.2
def mSet (i : Nat) (m : M) : MS := fun ρ => (m ρ).map fun p => (.nx, p.2.set i (some p.1))
def mAsg (g : MG) (m : M) : MS := fun ρ => (m ρ).bind fun p => (g p.1 p.2).map fun ρ' => (.nx, ρ')
def mNever : MS := fun _ => none
section
variable {X : Cx} {O : List Kd} {r : Ak} {st : Stmt} {rest : List Stmt} {e : Expr} {m : M} {a b : MS} {c : MT} {k : Ak} {pos : Pos} {x : Str} {i : Nat} {g : MG} {is : List Nat}
theorem s_nil : PSs X [] (tS X.K O mSkip r) := PSsi pss_nil fun Dn σ H ⟨F, ρ, fl, ρ', ok, hm, q⟩ => by
  cases hm
  exact q σ F H ok (StpS.refl _ _)
theorem s_never : PS X st (tS X.K O mNever r) := PSi ps_never fun Dn σ H ⟨F, ρ, fl, ρ', ok, hm, q⟩ => by cases hm
theorem s_cons (h1 : PS X st (tS X.K O a r)) (h2 : PSs X rest (tS X.K O b r)) : PSs X (st :: rest) (tS X.K O (mSeq a b) r) := by
  refine PSsi (pss_cons h1 h2) fun Dn σ H ⟨F, ρ, fl, ρ', ok, hm, q⟩ => ?_
  obtain ⟨⟨f1, ρ1⟩, e1, e2⟩ := bind_some hm
  refine ⟨F, ρ, f1, ρ1, ok, e1, ?_⟩
  cases f1 with
  | nx =>
    intro σ1 F1 H1 ok1 st1
    refine ⟨F1, ρ1, fl, ρ', ok1, e2, ?_⟩
    cases fl with
    | nx => exact fun σ2 F2 H2 ok2 st2 => q σ2 F2 H2 ok2 (st1.trans st2)
    | bk => exact fun σ2 F2 H2 ok2 st2 => q σ2 F2 H2 ok2 (st1.trans st2)
    | ct => exact fun σ2 F2 H2 ok2 st2 => q σ2 F2 H2 ok2 (st1.trans st2)
    | rt d => exact fun v σ2 F2 H2 ok2 st2 r2 => q v σ2 F2 H2 ok2 (st1.trans st2) (r2.pre st1)
  | bk =>
    cases e2
    exact q
  | ct =>
    cases e2
    exact q
  | rt d =>
    cases e2
    exact q
theorem s_one (h1 : PS X st (tS X.K O a r)) : PSs X [st] (tS X.K O a r) := pss_one h1
theorem s_expr (h : PE X e (tE X.K O m k)) (hs : swapsWith e none pos.line X.env = pure false := by rfl) : PS X (.Expr e pos) (tS X.K O (mDrop m) r) := by
  refine PSi (ps_expr h hs) fun Dn σ H ⟨F, ρ, fl, ρ', ok, hm, q⟩ => ?_
  obtain ⟨⟨d, ρ1⟩, e1, e2⟩ := map_some hm
  cases e2
  exact ⟨F, ρ, d, ρ1, ok, e1, fun v F1 H1 ok1 st1 _ => q σ F1 H1 ok1 st1⟩
theorem s_ret (h : PE X e (tE X.K O m r)) : PS X (.Return (some e) pos) (tS X.K O (mRet m) r) := by
  refine PSi (ps_ret h) fun Dn σ H ⟨F, ρ, fl, ρ', ok, hm, q⟩ => ?_
  obtain ⟨⟨d, ρ1⟩, e1, e2⟩ := map_some hm
  cases e2
  exact ⟨F, ρ, d, ρ1, ok, e1, fun v F1 H1 ok1 st1 r1 => q v σ F1 H1 ok1 st1 r1⟩
theorem s_if {tc : Expr} {sa sb : List Stmt} (hc : PT X tc (tT X.K O c)) (ha : PSs X sa (tS X.K O a r)) (hb : PSs X sb (tS X.K O b r)) : PS X (.If tc sa sb pos) (tS X.K O (mIte c a b) r) := by
  refine PSi (ps_if hc ha hb) fun Dn σ H ⟨F, ρ, fl, ρ', ok, hm, q⟩ => ?_
  obtain ⟨⟨t, ρ1⟩, e1, e2⟩ := bind_some hm
  refine ⟨F, ρ, t, ρ1, ok, e1, fun F1 H1 ok1 st1 => ?_⟩
  cases t with
  | true =>
    rw [if_pos rfl] at e2 ⊢
    refine ⟨F1, ρ1, fl, ρ', ok1, e2, ?_⟩
    cases fl with
    | nx => exact fun σ2 F2 H2 ok2 st2 => q σ2 F2 H2 ok2 (st1.toStpS.trans st2)
    | bk => exact fun σ2 F2 H2 ok2 st2 => q σ2 F2 H2 ok2 (st1.toStpS.trans st2)
    | ct => exact fun σ2 F2 H2 ok2 st2 => q σ2 F2 H2 ok2 (st1.toStpS.trans st2)
    | rt d => exact fun v σ2 F2 H2 ok2 st2 r2 => q v σ2 F2 H2 ok2 (st1.toStpS.trans st2) (r2.pre st1)
  | false =>
    rw [if_neg Bool.false_ne_true] at e2 ⊢
    refine ⟨F1, ρ1, fl, ρ', ok1, e2, ?_⟩
    cases fl with
    | nx => exact fun σ2 F2 H2 ok2 st2 => q σ2 F2 H2 ok2 (st1.toStpS.trans st2)
    | bk => exact fun σ2 F2 H2 ok2 st2 => q σ2 F2 H2 ok2 (st1.toStpS.trans st2)
    | ct => exact fun σ2 F2 H2 ok2 st2 => q σ2 F2 H2 ok2 (st1.toStpS.trans st2)
    | rt d => exact fun v σ2 F2 H2 ok2 st2 r2 => q v σ2 F2 H2 ok2 (st1.toStpS.trans st2) (r2.pre st1)
theorem asgFz {K : PySem.W.Frag} {Dn : Ends} {σ : L2.St} {H : Hp} (hO : O[i]? = some Kd.fz) (hl : i < nl O) (h0 : hasO O = false ∨ i ≠ oi O) (h : tS K O (mSet i m) r Dn σ H) : tAsg (tE K O m .fz) (gName i) Dn σ H := by
  obtain ⟨F, ρ, fl, ρ', ok, hm, q⟩ := h
  obtain ⟨⟨d, ρ1⟩, e1, e2⟩ := map_some hm
  cases e2
  refine ⟨F, ρ, d, ρ1, ok, e1, fun v F1 H1 ok1 st1 r1 => ?_⟩
  obtain ⟨h1, h2⟩ := ok1.setFz hO hl h0 r1
  exact q _ F1 H1 h1 (st1.trans h2)
theorem asgOw {K : PySem.W.Frag} {Dn : Ends} {σ : L2.St} {H : Hp} (hO : O[i]? = some Kd.ow) (hl : i < nl O) (h0 : hasO O = false ∨ i ≠ oi O) (h : tS K O (mSet i m) r Dn σ H) : tAsg (tE K O m .ow) (gName i) Dn σ H := by
  obtain ⟨F, ρ, fl, ρ', ok, hm, q⟩ := h
  obtain ⟨⟨d, ρ1⟩, e1, e2⟩ := map_some hm
  cases e2
  refine ⟨F, ρ, d, ρ1, ok, e1, fun v F1 H1 ok1 st1 r1 => ?_⟩
  obtain ⟨p, rfl, r1, r2, r3, r4, r5⟩ := r1
  obtain ⟨h1, h2, h3, h4⟩ := ok1.setOw (p := p) hO hl h0 r1 r2 r3 r5
  refine q _ F1 H1 h1 ⟨st1.ex, st1.kp, st1.nw, fun b hb => ?_, fun j kk g1 g2 => (h3 j kk g1 g2).1.trans (st1.pn j kk g1 g2), fun j kk g1 g2 => ?_, st1.lo, fun e => ⟨(h4 e).trans (st1.o0 e).1, (st1.o0 e).2⟩, st1.tb⟩
  · rcases h2 b hb with z | z
    · rw [z]
      exact r4
    · exact st1.fp b z
  · have gp : kk.pin = true := by
      cases kk <;> first | rfl | cases g2
    exact (h3 j kk g1 gp).2.trans (st1.lk j kk g1 g2)
theorem s_setF (i : Nat) {pos' : Pos} (hN : X.N.Nodup) (he : PE X e (tE X.K O m .fz)) (hO : O[i]? = some Kd.fz := by rfl) (hl : i < nl O := by decide) (h0 : hasO O = false ∨ i ≠ oi O := by decide) (hi : X.N[i]? = some x := by rfl) (hx : Loc X.env.scope x := by first | exact Or.inl rfl | exact Or.inr rfl) (hs : swapsWith e (some (.Name x pos')) pos.line X.env = pure false := by rfl) (hf : X.fn x = true ∨ X.env.scope.names.lookup x = some .local := by first | exact .inl rfl | exact .inr rfl | assumption) :
    PS X (.Assign [.Name x pos'] e pos) (tS X.K O (mSet i m) r) := PSi (ps_set hN hi hx he hs hf) fun _ _ _ h => asgFz hO hl h0 h
theorem s_setO (i : Nat) {pos' : Pos} (hN : X.N.Nodup) (he : PE X e (tE X.K O m .ow)) (hO : O[i]? = some Kd.ow := by rfl) (hl : i < nl O := by decide) (h0 : hasO O = false ∨ i ≠ oi O := by decide) (hi : X.N[i]? = some x := by rfl) (hx : Loc X.env.scope x := by first | exact Or.inl rfl | exact Or.inr rfl) (hs : swapsWith e (some (.Name x pos')) pos.line X.env = pure false := by rfl) (hf : X.fn x = true ∨ X.env.scope.names.lookup x = some .local := by first | exact .inl rfl | exact .inr rfl | assumption) :
    PS X (.Assign [.Name x pos'] e pos) (tS X.K O (mSet i m) r) := PSi (ps_set hN hi hx he hs hf) fun _ _ _ h => asgOw hO hl h0 h
theorem s_asg {tg : Expr} (he : PE X e (tE X.K O m .fz)) (hg : PG X tg (tG X.K O g is)) (hs : swapsWithSole [tg] e pos.line X.env = pure false := by rfl) (hw : swappedStores [tg] e X.env = pure none := by rfl)
    (h1 : (assignEach [tg] X.env).map (·.2) = [assign tg X.env] := by rfl) : PS X (.Assign [tg] e pos) (tS X.K O (mAsg g m) r) := by
  refine PSi (ps_asg he hg hs hw h1) fun Dn σ H ⟨F, ρ, fl, ρ', ok, hm, q⟩ => ?_
  obtain ⟨⟨d, ρ1⟩, e1, e2⟩ := bind_some hm
  obtain ⟨ρ2, e3, e4⟩ := map_some e2
  cases e4
  exact ⟨F, ρ, d, ρ1, ok, e1, fun v F1 H1 ok1 st1 r1 => ⟨F1, ρ1, d, ρ', ok1, r1, e3, fun σ2 ok2 st2 _ => q σ2 F1 H1 ok2 (st1.trans st2)⟩⟩
def mAug (i : Nat) (m : M) (op : List D → Option D) : MS := fun ρ => match ρ[i]? with
  | some (some d) => (m ρ).bind fun p => (op [d, p.1]).map fun z => (.nx, p.2.set i (some z))
  | _ => none
end
def lkOf : List Kd → List Kd → Bool
  | [], [] => true
  | a :: as, b :: bs => (decide (a = b) || (decide (a = .ow) && decide (b = .lk)) || (decide (a = .io) && decide (b = .li))) && lkOf as bs
  | _, _ => false
def Lk1 (a b : Kd) : Prop := a = b ∨ (a = .ow ∧ b = .lk) ∨ (a = .io ∧ b = .li)
theorem lk_get : ∀ {O L : List Kd} {i : Nat}, lkOf O L = true → (∀ a, O[i]? = some a → ∃ b, L[i]? = some b ∧ Lk1 a b) ∧ (∀ b, L[i]? = some b → ∃ a, O[i]? = some a ∧ Lk1 a b)
  | [], [], i, _ => ⟨fun a h => by simp at h, fun b h => by simp at h⟩
  | a :: as, b :: bs, i, h => by
    obtain ⟨h1, h2⟩ := Bool.and_eq_true_iff.mp (show (_ && lkOf as bs) = true from h)
    have e : Lk1 a b := by
      unfold Lk1
      simpa [or_assoc] using h1
    cases i with
    | zero =>
      refine ⟨fun c hc => ?_, fun c hc => ?_⟩
      · have hc : a = c := by simpa using hc
        subst hc
        exact ⟨b, by simp, e⟩
      · have hc : b = c := by simpa using hc
        subst hc
        exact ⟨a, by simp, e⟩
    | succ i =>
      have q := lk_get (i := i) h2
      simpa using q
  | [], b :: bs, _, h => by cases h
  | a :: as, [], _, h => by cases h
theorem lk_len : ∀ {O L : List Kd}, lkOf O L = true → O.length = L.length
  | [], [], _ => rfl
  | a :: as, b :: bs, h => by
    obtain ⟨h1, h2⟩ := Bool.and_eq_true_iff.mp (show (_ && lkOf as bs) = true from h)
    rw [List.length_cons, List.length_cons, lk_len h2]
  | [], b :: bs, h => by cases h
  | a :: as, [], h => by cases h
theorem Lk1.own {a b : Kd} (h : Lk1 a b) : a.own = b.own := by
  rcases h with h | ⟨h1, h2⟩ | ⟨h1, h2⟩
  · rw [h]
  · rw [h1, h2] <;> rfl
  · rw [h1, h2] <;> rfl
theorem Lk1.pin {a b : Kd} (h : Lk1 a b) (p : a.pin = true) : b.pin = true := by
  rcases h with h | ⟨h1, h2⟩ | ⟨h1, h2⟩
  · rw [← h]
    exact p
  · rw [h2] <;> rfl
  · rw [h2] <;> rfl
theorem Lk1.lock {a b : Kd} (h : Lk1 a b) (p : a.lock = true) : b.lock = true := by
  rcases h with h | ⟨h1, h2⟩ | ⟨h1, h2⟩
  · rw [← h]
    exact p
  · rw [h2] <;> rfl
  · rw [h2] <;> rfl
section
variable {K : PySem.W.Frag} {O L : List Kd} {w w' : Wd}
theorem lk_cell (hl : lkOf O L = true) (k : Nat) (c : Str) (as : List Str) : O.getLast? = some (.cell k c as) ↔ L.getLast? = some (.cell k c as) := by
  rw [List.getLast?_eq_getElem?, List.getLast?_eq_getElem?, ← lk_len hl]
  constructor
  · intro h
    obtain ⟨b, g1, g2⟩ := (lk_get hl).1 _ h
    rcases g2 with g2 | ⟨g2, _⟩ | ⟨g2, _⟩
    · rw [g1, g2]
    · cases g2
    · cases g2
  · intro h
    obtain ⟨b, g1, g2⟩ := (lk_get hl).2 _ h
    rcases g2 with g2 | ⟨_, g2⟩ | ⟨_, g2⟩
    · rw [g1, g2]
    · cases g2
    · cases g2
theorem hasO_iff {O : List Kd} : hasO O = true ↔ ∃ k c as, O.getLast? = some (.cell k c as) := by
  unfold hasO
  split
  · rename_i k c as e
    exact ⟨fun _ => ⟨k, c, as, e⟩, fun _ => rfl⟩
  · rename_i y
    exact ⟨fun z => (by cases z), fun z => by
      obtain ⟨k, c, as, z⟩ := z
      exact (y k c as z).elim⟩
theorem lk_has (hl : lkOf O L = true) : hasO L = hasO O := by
  have h : hasO L = true ↔ hasO O = true := by
    rw [hasO_iff, hasO_iff]
    exact ⟨fun ⟨k, c, as, z⟩ => ⟨k, c, as, (lk_cell hl k c as).mpr z⟩, fun ⟨k, c, as, z⟩ => ⟨k, c, as, (lk_cell hl k c as).mp z⟩⟩
  exact Bool.eq_iff_iff.mpr h
theorem lk_ats (hl : lkOf O L = true) : ats L = ats O := by
  cases e : hasO O with
  | false => rw [no_ats e, no_ats ((lk_has hl).trans e)]
  | true =>
    obtain ⟨k, c, as, z⟩ := hasO_iff.mp e
    unfold ats
    rw [z, (lk_cell hl k c as).mp z]
theorem no_oi {O : List Kd} (h : hasO O = false) : oi O = 0 := by
  unfold oi
  split
  · rename_i k c as e
    have := hasO_iff.mpr ⟨k, c, as, e⟩
    rw [h] at this
    cases this
  · rfl
theorem nl_no {O : List Kd} (h : hasO O = false) : nl O = O.length := by
  unfold nl
  rw [h]
  rfl
theorem sv_no {O : List Kd} {H : Hp} {σ : L2.St} {i : Nat} (h : hasO O = false) (hs : σ.length = O.length) : sv O H σ i = σ[i]? := by
  by_cases hi : i < nl O
  · exact sv_loc hi
  · have hi2 : σ.length ≤ i := by
      rw [nl_no h] at hi
      omega
    rw [List.getElem?_eq_none hi2]
    unfold sv
    rw [if_neg hi, no_ats h]
    rfl
theorem StpS.no {O : List Kd} {w w' : Wd} (h : hasO O = false) (st : StpS O w w') : Stp O w w' := ⟨st, fun e => by rw [h] at e; cases e⟩
theorem lk_oi (hl : lkOf O L = true) : oi L = oi O := by
  cases e : hasO O with
  | false => rw [no_oi e, no_oi ((lk_has hl).trans e)]
  | true =>
    obtain ⟨k, c, as, z⟩ := hasO_iff.mp e
    unfold oi
    rw [z, (lk_cell hl k c as).mp z]
theorem no_cn {O : List Kd} (h : hasO O = false) : cn O = Str.empty := by
  unfold cn
  split
  · rename_i k c as e
    have := hasO_iff.mpr ⟨k, c, as, e⟩
    rw [h] at this
    cases this
  · rfl
theorem lk_cn (hl : lkOf O L = true) : cn L = cn O := by
  cases e : hasO O with
  | false => rw [no_cn e, no_cn ((lk_has hl).trans e)]
  | true =>
    obtain ⟨k, c, as, z⟩ := hasO_iff.mp e
    unfold cn
    rw [z, (lk_cell hl k c as).mp z]
theorem lk_ob (hl : lkOf O L = true) (σ : L2.St) : ob L σ = ob O σ := by
  unfold ob
  rw [lk_oi hl]
theorem lk_nl (hl : lkOf O L = true) : nl L = nl O := by
  unfold nl
  rw [lk_has hl, lk_ats hl, lk_len hl]
theorem lk_sv (hl : lkOf O L = true) {H : Hp} {σ : L2.St} {i : Nat} : sv L H σ i = sv O H σ i := by
  unfold sv
  rw [lk_nl hl, lk_ats hl, lk_ob hl]
theorem lk_at (hl : lkOf O L = true) {i : Nat} {p : Addr} : OwnAt L w i p ↔ OwnAt O w i p := by
  constructor
  · rintro ⟨k, d, h1, h2, h3, h4⟩
    obtain ⟨a, g1, g2⟩ := (lk_get hl).2 k h1
    exact ⟨a, d, g1, g2.own.trans h2, h3, (lk_sv hl).symm.trans h4⟩
  · rintro ⟨k, d, h1, h2, h3, h4⟩
    obtain ⟨a, g1, g2⟩ := (lk_get hl).1 k h1
    exact ⟨a, d, g1, g2.own.symm.trans h2, h3, (lk_sv hl).trans h4⟩
theorem lk_fp (hl : lkOf O L = true) {p : Addr} : Fp L w p ↔ Fp O w p :=
  ⟨fun ⟨i, h⟩ => ⟨i, (lk_at hl).mp h⟩, fun ⟨i, h⟩ => ⟨i, (lk_at hl).mpr h⟩⟩
theorem lk_obj (hl : lkOf O L = true) : ObOk K L w ↔ ObOk K O w := by
  have e := lk_ob hl w.σ
  constructor
  · rintro ⟨a0, a1, a2, a3, a4, a5⟩
    rw [e] at a0 a2 a3 a4 a5
    rw [lk_cn hl, lk_ats hl] at a5
    rw [lk_oi hl] at a0 a1
    rw [lk_nl hl] at a1
    exact ⟨a0, a1, a2, a3, fun z => a4 ((lk_fp hl).mpr z), a5⟩
  · rintro ⟨a0, a1, a2, a3, a4, a5⟩
    rw [← e] at a0 a2 a3 a4 a5
    rw [← lk_cn hl, ← lk_ats hl] at a5
    rw [← lk_oi hl] at a0 a1
    rw [← lk_nl hl] at a1
    exact ⟨a0, a1, a2, a3, fun z => a4 ((lk_fp hl).mp z), a5⟩
theorem Ok.lock (hl : lkOf O L = true) (ok : Ok K O w) : Ok K L w := by
  refine ⟨ok.sub, ok.ls.trans (lk_nl hl).symm, ok.lr.trans (lk_len hl), fun i d h1 h2 => ?_, fun i k d h1 h2 h3 => ?_, fun i j p h1 h2 => ok.ap i j p ((lk_at hl).mp h1) ((lk_at hl).mp h2), fun e => ?_, ok.tb⟩
  · obtain ⟨a, g1, g2⟩ := (lk_get hl).2 _ h1
    rcases g2 with g2 | ⟨g2, g3⟩ | ⟨g2, g3⟩
    · rw [g2] at g1
      obtain ⟨v, y1, y2⟩ := ok.fz i d g1 h2
      exact ⟨v, (lk_sv hl).trans y1, y2⟩
    · cases g3
    · cases g3
  · obtain ⟨a, g1, g2⟩ := (lk_get hl).2 _ h1
    obtain ⟨v, y1, y2⟩ := ok.ow i a d g1 (g2.own.trans h2) h3
    exact ⟨v, (lk_sv hl).trans y1, y2⟩
  · exact (lk_obj hl).mpr (ok.obj ((lk_has hl).symm.trans e))
theorem Ok.unlock (hl : lkOf O L = true) (ok : Ok K L w) : Ok K O w := by
  refine ⟨ok.sub, ok.ls.trans (lk_nl hl), ok.lr.trans (lk_len hl).symm, fun i d h1 h2 => ?_, fun i k d h1 h2 h3 => ?_, fun i j p h1 h2 => ok.ap i j p ((lk_at hl).mpr h1) ((lk_at hl).mpr h2), fun e => ?_, ok.tb⟩
  · obtain ⟨a, g1, g2⟩ := (lk_get hl).1 _ h1
    rcases g2 with g2 | ⟨g2, g3⟩ | ⟨g2, g3⟩
    · rw [← g2] at g1
      obtain ⟨v, y1, y2⟩ := ok.fz i d g1 h2
      exact ⟨v, (lk_sv hl).symm.trans y1, y2⟩
    · cases g2
    · cases g2
  · obtain ⟨a, g1, g2⟩ := (lk_get hl).1 _ h1
    obtain ⟨v, y1, y2⟩ := ok.ow i a d g1 (g2.own.symm.trans h2) h3
    exact ⟨v, (lk_sv hl).symm.trans y1, y2⟩
  · exact (lk_obj hl).mp (ok.obj ((lk_has hl).trans e))
theorem StpS.unlock (hl : lkOf O L = true) (st : StpS L w w') : StpS O w w' where
  ex := st.ex
  kp := fun b o h z y => st.kp b o h (fun q => z ((lk_fp hl).mp q)) fun e => by rw [lk_ob hl]; exact y ((lk_has hl).symm.trans e)
  nw := fun b o h z => st.nw b o h fun q => z ((lk_fp hl).mp q)
  fp := fun b h => by
    rcases st.fp b ((lk_fp hl).mpr h) with q | q
    · exact .inl ((lk_fp hl).mp q)
    · exact .inr q
  pn := fun i k h1 h2 => by
    obtain ⟨a, g1, g2⟩ := (lk_get hl).1 k h1
    exact (lk_sv hl).symm.trans ((st.pn i a g1 (g2.pin h2)).trans (lk_sv hl))
  lk := fun i k h1 h2 => by
    obtain ⟨a, g1, g2⟩ := (lk_get hl).1 k h1
    exact st.lk i a g1 (g2.lock h2)
  lo := fun i k p d h1 h2 h3 h4 => by
    obtain ⟨a, g1, g2⟩ := (lk_get hl).1 k h1
    exact st.lo i a p d g1 (g2.lock h2) h3 ((lk_sv hl).trans h4)
  o0 := fun e => by
    have z := st.o0 ((lk_has hl).trans e)
    rw [lk_ob hl, lk_ob hl] at z
    exact z
  tb := st.tb
theorem Stp.unlock (hl : lkOf O L = true) (st : Stp L w w') : Stp O w w' := ⟨st.toStpS.unlock hl, fun e => by
  have z := st.ost ((lk_has hl).trans e)
  rw [lk_ob hl] at z
  exact z⟩
theorem Rs.unlock (hl : lkOf O L = true) {k : Ak} {d : D} {v : V} (h : Rs K L w w' k d v) : Rs K O w w' k d v := by
  cases k with
  | fz => exact h
  | ow =>
    obtain ⟨p, e, h1, h2, h3, h4, h5⟩ := h
    refine ⟨p, e, h1, h2, fun z => h3 ((lk_fp hl).mpr z), ?_, fun e => by
      have z := h5 ((lk_has hl).trans e)
      rw [lk_ob hl] at z
      exact z⟩
    rcases h4 with h4 | h4
    · exact .inl ((lk_fp hl).mp h4)
    · exact .inr h4
  | br i =>
    obtain ⟨h1, q, h2, h3⟩ := h
    obtain ⟨a, g1, g2⟩ := (lk_get hl).2 q h2
    exact ⟨(lk_sv hl).symm.trans h1, a, g1, g2.own.trans h3⟩
end
def YD (K : PySem.W.Frag) (F0 : Hp) (ds : List D) : Nat → Hp → V → Hp → Prop := fun i H x H' => ∀ F, Same F0 F → Same F H → ∃ F', Pur F H F' H' ∧ ∃ d, ds[i]? = some d ∧ Rp K F' d x
structure Stq (O : List Kd) (Z : Addr → Prop) (w w' : Wd) : Prop where
  ex : Same w.F w'.F
  kp : ∀ b o, ¬ Z b → w.H b = some o → ¬ Fp O w b → (hasO O = true → b ≠ ob O w.σ) → KH o (w'.H b) ∧ ¬ Fp O w' b
  pn : ∀ (i : Nat) (k : Kd), O[i]? = some k → k.pin = true → w'.sv O i = w.sv O i
  lk : ∀ (i : Nat) (k : Kd), O[i]? = some k → k.lock = true → w'.ρ[i]? = w.ρ[i]?
  lo : ∀ (i : Nat) (k : Kd) (p : Addr) (d : D), O[i]? = some k → k.lock = true → w.ρ[i]? = some (some d) → w.sv O i = some (some (.ref p)) → w'.H p = w.H p
  o0 : hasO O = true → ob O w'.σ = ob O w.σ
theorem StpS.q {O : List Kd} {w w' : Wd} (st : StpS O w w') (Z : Addr → Prop) : Stq O Z w w' := ⟨st.ex, fun b o _ h n y => ⟨st.kp b o h n y, st.nofp h n⟩, st.pn, st.lk, st.lo, fun e => (st.o0 e).1⟩
theorem Stp.q {O : List Kd} {w w' : Wd} (st : Stp O w w') (Z : Addr → Prop) : Stq O Z w w' := st.toStpS.q Z
theorem Stq.step {O : List Kd} {Z : Addr → Prop} {w w1 w2 : Wd} (a : Stq O Z w w1) (b : StpS O w1 w2) : Stq O Z w w2 where
  ex := a.ex.trans b.ex
  kp := fun c o z h n y => by
    obtain ⟨h1, h2⟩ := a.kp c o z h n y
    obtain ⟨o', e'⟩ := h1.ex
    exact ⟨h1.trans fun o' h' => b.kp c o' h' h2 fun e => by rw [a.o0 e]; exact y e, b.nofp e' h2⟩
  pn := fun i k h1 h2 => (b.pn i k h1 h2).trans (a.pn i k h1 h2)
  lk := fun i k h1 h2 => (b.lk i k h1 h2).trans (a.lk i k h1 h2)
  lo := fun i k p d h1 h2 h3 h4 => (b.lo i k p d h1 h2 ((a.lk i k h1 h2).trans h3) ((a.pn i k h1 (Kd.pin_of h2)).trans h4)).trans (a.lo i k p d h1 h2 h3 h4)
  o0 := fun e => (b.o0 e).1.trans (a.o0 e)
theorem Stq.unlock {K : PySem.W.Frag} {O L : List Kd} {Z : Addr → Prop} {w w' : Wd} (hl : lkOf O L = true) (st : Stq L Z w w') : Stq O Z w w' where
  ex := st.ex
  kp := fun b o z h n y => by
    obtain ⟨h1, h2⟩ := st.kp b o z h (fun q => n ((lk_fp hl).mp q)) fun e => by rw [lk_ob hl]; exact y ((lk_has hl).symm.trans e)
    exact ⟨h1, fun q => h2 ((lk_fp hl).mpr q)⟩
  pn := fun i k h1 h2 => by
    obtain ⟨a, g1, g2⟩ := (lk_get hl).1 k h1
    exact (lk_sv hl).symm.trans ((st.pn i a g1 (g2.pin h2)).trans (lk_sv hl))
  lk := fun i k h1 h2 => by
    obtain ⟨a, g1, g2⟩ := (lk_get hl).1 k h1
    exact st.lk i a g1 (g2.lock h2)
  lo := fun i k p d h1 h2 h3 h4 => by
    obtain ⟨a, g1, g2⟩ := (lk_get hl).1 k h1
    exact st.lo i a p d g1 (g2.lock h2) h3 ((lk_sv hl).trans h4)
  o0 := fun e => by
    have z := st.o0 ((lk_has hl).trans e)
    rw [lk_ob hl, lk_ob hl] at z
    exact z
def Zok (O : List Kd) (w : Wd) (Z : Addr → Prop) : Prop := ∀ b, Z b → (∃ o, w.H b = some o) ∧ w.F b = none ∧ ¬ Fp O w b ∧ (hasO O = true → b ≠ ob O w.σ)
def Zno : Addr → Prop := fun _ => False
theorem zno {O : List Kd} {w : Wd} : Zok O w Zno := fun _ h => h.elim
def tI (K : PySem.W.Frag) (O L : List Kd) (m : MI) : TI := fun σ H R => ∃ F ρ ds ρ', Ok K O ⟨F, H, σ, ρ⟩ ∧ m ρ = some (ds, ρ') ∧
  ∀ J F' H' G, Ok K O ⟨F', H', σ, ρ'⟩ → Stp O ⟨F, H, σ, ρ⟩ ⟨F', H', σ, ρ'⟩ → Walk J ds.length G (YD K F' ds) → (∀ Z, Zok O ⟨F, H, σ, ρ⟩ Z → ∀ w2, Ok K L w2 → Stq L Z ⟨F', H', σ, ρ'⟩ w2 → G w2.H) → R J H'
def mForL : List D → MG → MS → MS
  | [], _, _ => fun ρ => some (.nx, ρ)
  | d :: ds, g, b => fun ρ => (g d ρ).bind fun ρ1 => (b ρ1).bind fun p => match p.1 with
    | .nx => mForL ds g b p.2
    | .ct => mForL ds g b p.2
    | .bk => some (.nx, p.2)
    | .rt d => some (.rt d, p.2)
def mFor (mi : MI) (g : MG) (b : MS) : MS := fun ρ => (mi ρ).bind fun p => mForL p.1 g b p.2
section
variable {X : Cx} {O L : List Kd} {tg iter e : Expr} {mi : MI} {g : MG} {is : List Nat} {b : MS} {r : Ak} {body : List Stmt} {pos : Pos}
theorem PIi {w w' : TI} (h : PI X tg e w) (k : ∀ σ H R, w' σ H R → w σ H R) : PI X tg e w' := ⟨fun pins s σ H R I q => h.run pins s σ H R I (k σ H R q)⟩
theorem drop_get {ds : List D} {i : Nat} {d : D} (h : ds[i]? = some d) : ds.drop i = d :: ds.drop (i + 1) := by
  obtain ⟨hi, e⟩ := List.getElem?_eq_some_iff.mp h
  rw [List.drop_eq_getElem_cons hi, e]
theorem s_for (hp : PassesOwn (model X.prog X.w) X.A X.env X.xe) (hc : X.calm = true) (hi : PI X tg iter (tI X.K O L mi)) (hg : PG X tg (tG X.K L g is)) (hb : PSs X body (tS X.K L b r)) (hl : lkOf O L = true := by rfl)
    (hs : ∀ x, foldedSetIterable iter X.env x = pure x := by intro _; rfl) : PS X (.For tg iter body [] pos) (tS X.K O (mFor mi g b) r) := by
  refine PSi (ps_for hp hc hi hg hb hs) fun Dn σ H ⟨F, ρ, fl, ρ', ok, hm, q⟩ => ?_
  obtain ⟨⟨ds, ρ1⟩, e1, e2⟩ := bind_some hm
  refine ⟨F, ρ, ds, ρ1, ok, e1, fun J F1 H1 G ok1 st1 wk hG => ?_⟩
  have e2 : mForL ds g b ρ1 = some (fl, ρ') := e2
  refine for_it wk (fun i σ2 H2 => ∃ F2 ρ2, Ok X.K L ⟨F2, H2, σ2, ρ2⟩ ∧ StpS L ⟨F1, H1, σ, ρ1⟩ ⟨F2, H2, σ2, ρ2⟩ ∧ mForL (ds.drop i) g b ρ2 = some (fl, ρ'))
    ⟨F1, ρ1, ok1.lock hl, StpS.refl _ _, e2⟩ (fun i σ2 H2 _ ⟨F2, ρ2, ok2, st2, _⟩ => hG Zno zno _ ok2 (st2.q _)) (fun i x σ2 H2 H3 hi ⟨F2, ρ2, ok2, st2, m2⟩ y => ?_) fun σ2 H2 ⟨F2, ρ2, ok2, st2, m2⟩ => ?_
  · obtain ⟨F3, pu, d, hd, rp⟩ := y F2 st2.ex ok2.sub
    rw [drop_get hd] at m2
    obtain ⟨ρ3, g1, g2⟩ := bind_some m2
    obtain ⟨⟨f, ρ4⟩, g3, g4⟩ := bind_some g2
    obtain ⟨ok3, st3⟩ := ok2.pur pu
    refine ⟨F3, ρ2, d, ρ3, ok3, rp, g1, fun σ3 ok4 st4 _ => ⟨F3, ρ3, f, ρ4, ok4, g3, ?_⟩⟩
    have go : StpS L _ _ := (st2.trans st3.toStpS).trans st4.toStpS
    cases f with
    | nx => exact fun σ5 F5 H5 ok5 st5 => ⟨F5, ρ4, ok5, go.trans st5, g4⟩
    | ct => exact fun σ5 F5 H5 ok5 st5 => ⟨F5, ρ4, ok5, go.trans st5, g4⟩
    | bk =>
      cases g4
      exact fun σ5 F5 H5 ok5 st5 => q σ5 F5 H5 (ok5.unlock hl) (st1.toStpS.trans ((go.trans st5).unlock hl))
    | rt d =>
      cases g4
      exact fun v σ5 F5 H5 ok5 st5 r5 => q v σ5 F5 H5 (ok5.unlock hl) (st1.toStpS.trans ((go.trans st5).unlock hl)) (((r5.pre go).unlock hl).pre st1.toStpS)
  · rw [List.drop_length] at m2
    cases m2
    exact q σ2 F2 H2 (ok2.unlock hl) (st1.toStpS.trans (st2.unlock hl))
def mItL (m : M) : MI := fun ρ => (m ρ).bind fun p => match p.1 with
  | .list ds => some (ds, p.2)
  | _ => none
def mItT (m : M) : MI := fun ρ => (m ρ).bind fun p => match p.1 with
  | .tuple ds => some (ds, p.2)
  | _ => none
def mItB (i : Nat) : MI := fun ρ => match ρ[i]? with
  | some (some (.list ds)) => some (ds, ρ)
  | _ => none
theorem itL_some {m : M} {ρ ρ' : En} {ds : List D} (h : mItL m ρ = some (ds, ρ')) : m ρ = some (.list ds, ρ') := by
  obtain ⟨⟨d, ρ1⟩, h1, h2⟩ := bind_some h
  cases d <;> cases h2
  exact h1
theorem itT_some {m : M} {ρ ρ' : En} {ds : List D} (h : mItT m ρ = some (ds, ρ')) : m ρ = some (.tuple ds, ρ') := by
  obtain ⟨⟨d, ρ1⟩, h1, h2⟩ := bind_some h
  cases d <;> cases h2
  exact h1
theorem yd_at {K : PySem.W.Frag} {F0 : Hp} {ds : List D} {xs : List V} (r : RpA K F0 ds xs) {i : Nat} {H : Hp} {x : V} {H' : Hp} (y : YAt xs i H x H') : YD K F0 ds i H x H' := fun F e s => by
  obtain ⟨rfl, y⟩ := y
  obtain ⟨d, h1, h2⟩ := r.getV y
  exact ⟨F, .refl s, d, h1, h2.mono e⟩
theorem walk_of_list {K : PySem.W.Frag} {F0 : Hp} {ds : List D} {xs : List V} {a : Addr} (r : RpA K F0 ds xs) : Walk (Itl K a) ds.length (fun H => SqL K H a xs) (YD K F0 ds) := by
  rw [← r.length]
  exact walk_list.mono (fun _ h => h) fun i H x H' _ _ y => yd_at r y
theorem walk_of_tup {K : PySem.W.Frag} {F0 : Hp} {ds : List D} {xs : List V} {a : Addr} (r : RpA K F0 ds xs) : Walk (Itt K a) ds.length (fun H => SqT K H a xs) (YD K F0 ds) := by
  rw [← r.length]
  exact walk_tup.mono (fun _ h => h) fun i H x H' _ _ y => yd_at r y
theorem i_list {m : M} (h : PE X e (tE X.K O m .fz)) : PI X tg e (tI X.K O L (mItL m)) := by
  refine PIi (pi_list h) fun σ H R ⟨F, ρ, ds, ρ', ok, hm, q⟩ => ?_
  refine ⟨F, ρ, _, ρ', ok, itL_some hm, fun v F1 H1 ok1 st1 r1 => ?_⟩
  obtain ⟨a, xs, e1, h1, h2⟩ := r1
  refine ⟨a, e1, ⟨xs, ok1.sub.seq h1⟩, q _ F1 H1 _ ok1 st1 (walk_of_list h2) fun Z _ w2 ok2 st2 => ok2.sub.seq (st2.ex.seq h1)⟩
theorem i_tup {m : M} (h : PE X e (tE X.K O m .fz)) : PI X tg e (tI X.K O L (mItT m)) := by
  refine PIi (pi_tup h) fun σ H R ⟨F, ρ, ds, ρ', ok, hm, q⟩ => ?_
  refine ⟨F, ρ, _, ρ', ok, itT_some hm, fun v F1 H1 ok1 st1 r1 => ?_⟩
  obtain ⟨a, xs, e1, h1, h2⟩ := r1
  exact ⟨a, e1, ⟨xs, same_sqt ok1.sub h1⟩, q _ F1 H1 _ ok1 st1 (walk_of_tup h2) fun Z _ w2 ok2 st2 => same_sqt ok2.sub (same_sqt st2.ex h1)⟩
def dRng (lo : Int) (n : Nat) : List D := (List.range n).map fun (i : Nat) => PyData.int (lo + (i : Int))
theorem dRng_get {lo : Int} {n i : Nat} (h : i < n) : (dRng lo n)[i]? = some (.int (lo + (i : Int))) := by
  unfold dRng
  rw [List.getElem?_map, List.getElem?_range h]
  rfl
theorem dRng_len {lo : Int} {n : Nat} : (dRng lo n).length = n := by
  unfold dRng
  rw [List.length_map, List.length_range]
def mRng1 (ma : MA) : MI := fun ρ => (ma ρ).bind fun p => match p.1 with
  | [.int j] => if -(2 ^ 62) ≤ j ∧ j < 2 ^ 62 then some (dRng 0 j.toNat, p.2) else none
  | _ => none
def mRng2 (ma : MA) : MI := fun ρ => (ma ρ).bind fun p => match p.1 with
  | [.int i, .int j] => if -(2 ^ 62) ≤ i ∧ i < 2 ^ 62 ∧ -(2 ^ 62) ≤ j ∧ j < 2 ^ 62 then some (dRng i (j - i).toNat, p.2) else none
  | _ => none
theorem walk_of_range {K : PySem.W.Frag} {F0 : Hp} {lo : Int} {n : Nat} : Walk (Itr lo n) (dRng lo n).length (fun _ => True) (YD K F0 (dRng lo n)) := by
  rw [dRng_len]
  refine walk_range.mono (fun _ h => h) fun i H x H' hi _ y F e s => ?_
  obtain ⟨rfl, rfl⟩ := y
  exact ⟨F, .refl s, _, dRng_get hi, rfl⟩
theorem i_rng1 {a : Expr} {ma : MA} {p : Pos} (hm : X.mg "range" = none) (ha : PA X [a] (tA X.K O ma [.fz])) (hg : Gl X "range" := by rfl) (hs : starEach [a] X.env = [(false, eval a X.env)] := by rfl) : PI X tg (.Call (.Name "range" p) [a] [] pos) (tI X.K O L (mRng1 ma)) := by
  refine PIi (pi_range1 hg hm ha hs) fun σ H R ⟨F, ρ, ds, ρ', ok, hm, q⟩ => ?_
  obtain ⟨⟨as, ρ1⟩, e1, e2⟩ := bind_some hm
  refine ⟨F, ρ, as, ρ1, ok, e1, fun vs F1 H1 ok1 st1 r1 => ?_⟩
  dsimp only at e2
  split at e2
  · rename_i j
    split at e2
    · rename_i hj
      cases e2
      obtain ⟨r, _⟩ := r1.fz rfl
      obtain ⟨v, rfl, hv⟩ := r.one
      have hv : v = .int j := hv
      subst hv
      exact ⟨j, rfl, hj.1, hj.2, q _ F1 H1 _ ok1 st1 walk_of_range fun _ _ _ _ _ => trivial⟩
    · cases e2
  · cases e2
end
section
variable {X : Cx} {O : List Kd} {e : Expr} {c : MT} {b : MS} {r : Ak} {body : List Stmt} {pos : Pos}
end
structure FnG (P : Program) (w : World) (K : PySem.W.Frag) (mg : Str → Option Value) (base : Heap) (CX : CXT) (k : Nat) (f : Addr) (fd : FuncData) (ps : List Str) (sp : Sp) : Prop where
  ar : ∀ vs H Q E, sp vs H Q E → vs.length = ps.length
  go : ∀ (A : Around) (outer : List Env) (s : Shared) (H : Hp) (args : Args) (us : List Value) (vs : List V) (Q : VK) (E : XK), A.guards = some [] → Room k A → Env0 P w K mg base A outer s H → BindsTo s fd args (ps.zip us) →
    Vals vs us → sp vs H Q E → codeAny (model P w) A (.call (.ref f) args) (CR CX outer P w H s Q E) s
section
variable {P : Program} {w : World} {K : PySem.W.Frag} {mg : Str → Option Value} {base : Heap} {CX : CXT} {f : Addr} {fd : FuncData}
theorem FnG.up {j k : Nat} {ps : List Str} {sp : Sp} (G : FnG P w K mg base CX j f fd ps sp) (h : j ≤ k) : FnG P w K mg base CX k f fd ps sp :=
  ⟨G.ar, fun A outer s H args us vs Q E g hr => G.go A outer s H args us vs Q E g (hr.mono h)⟩
theorem FnG.imp {k : Nat} {ps : List Str} {sp sp' : Sp} (G : FnG P w K mg base CX k f fd ps sp) (h : ∀ vs H Q E, sp' vs H Q E → sp vs H Q E) : FnG P w K mg base CX k f fd ps sp' :=
  ⟨fun vs H Q E z => G.ar vs H Q E (h _ _ _ _ z), fun A outer s H args us vs Q E g hr e hb r z => G.go A outer s H args us vs Q E g hr e hb r (h _ _ _ _ z)⟩
theorem fnG_of {x qual : Str} {params : Arguments} {body : List Stmt} {scope : Scope} {dvs : List V} {kws : List (Str × V)} {N ps : List Str} {k : Nat} {sp : Sp} (F : FunD K x qual params body scope dvs kws f fd) (S : FnScope N ps scope)
    (ar : ∀ vs H Q E, sp vs H Q E → vs.length = ps.length)
    (hb : ∀ (cd : Value) (A : Around) (outer : List Env) (s : Shared) (H : Hp) (vs : List V) (Q : VK) (E : XK), A.guards = some [] → Room k (A.deeper (envOfC qual scope s.heap.objs.size f cd)) → sp vs H Q E →
      ∃ t, PSs (cxOf CX P w K mg base N qual scope f cd A outer s H E) body t ∧ t { nx := fun _ H' => Q .non H', rt := Q } (L2.start N vs) H) : FnG P w K mg base CX (k + 1) f fd ps sp := by
  obtain ⟨oc, od, dV, kV, doc, pm, an, cd, ct, osl, rfl, lk, code, _, _⟩ := F.ex
  refine ⟨ar, fun A outer s H args us vs Q E g hr e bt rv z => ?_⟩
  have cnt := ar _ _ _ _ z
  have inS : K.In s.heap := e.mod.kin.keeps fun b o h => (e.bs b o h).1
  have noLim : s.heap.NoLimit := e.mod.nolimit.keeps fun b o h => (e.bs b o h).1
  have kinds : ∀ y ∈ ps.zip us, scope.names.lookup y.1 = some .local ∨
      (scope.names.lookup y.1 = some .cell ∧ ((cellsFrom (s.heap.objs.size + 1) scope.names []).lookup y.1).isSome = true) := by
    rintro ⟨n, v⟩ hy
    rcases S.par n (List.of_mem_zip hy).1 with h | h
    · exact Or.inl h
    · exact Or.inr ⟨h, PySem.W.cellsFrom_some _ _ _ (Or.inl h)⟩
  refine codeAny_call_function hr.depth (inS _ _ lk) rfl S.co S.gen rfl (PySem.W.codeRec_of inS code) (bt _ _ _ _ ?_)
  refine wpAny_newFunctionEnv_cells S.kind kinds fun en he s1 q => ?_
  subst he
  refine ⟨noLim.keeps q.toInCall.keep, codeAny_func ?_⟩
  obtain ⟨t, ht, h0⟩ := hb cd A outer s H vs Q E g (hr.deeper _) z
  have I := inv_start (CX := CX) (E := E) (f := f) (cd := cd) (A := A) (outer := outer) (P := P) (w := w) (base := base) S hr.hd e cnt rv q
  refine wpAny_mono (ht.run [] s1 (L2.start N vs) H _ I h0) (fun fl s' hs => ?_) fun _ _ hs => hs
  cases fl with
  | ret u =>
    obtain ⟨v, σ', H', J, r, h⟩ := hs
    exact ⟨v, H', J.os, J.bare, J.base, J.hok, r, h⟩
  | next =>
    obtain ⟨σ', H', J, h⟩ := hs
    exact ⟨V.non, H', J.os, J.bare, J.base, J.hok, rfl, h⟩
  | brk =>
    obtain ⟨_, _, _, h⟩ := hs
    exact h.elim
  | cont =>
    obtain ⟨_, _, _, h⟩ := hs
    exact h.elim
end
section
variable {X : Cx} {CX : CXT} {k : Nat} {f : Addr} {fd : FuncData} {ps : List Str} {sp : Sp} {dvs : List V} {ds : List Value} {E : XK} {x : Str} {p pos : Pos} {e : Expr} {es : List Expr} {t : TA}
theorem goFn {pins : List (Addr × Obj)} {σ : L2.St} {H : Hp} {s : Shared} {Q : VK} {us : List Value} {vs : List V} (G : FnG X.prog X.w X.K X.mg X.base CX k f fd ps sp) (hgd : X.A.guards = some []) (hr : Room k X.A) (hb : Binds X.K fd ps ds) (hd : Vals dvs ds)
    (hx : Passes CX X E) (I : Inv X pins σ H s) (r : Vals vs us) (h : sp (vs ++ dvs) H Q E) : wpAny (model X.prog X.w) X.A (call (.ref f) us) (EP X pins σ Q) X.xe s := by
  have both : Vals (vs ++ dvs) (us ++ ds) := r.append hd
  have cnt : (us ++ ds).length = ps.length := both.length.symm.trans (G.ar _ _ _ _ h)
  refine wpAny_call (codeAny_mono (G.go X.A X.stack s H ⟨us, []⟩ (us ++ ds) (vs ++ dvs) Q E hgd hr I.env0 (hb s us I.kIn cnt) both h) fun res s' hq => ?_)
  rcases res with e | fl
  · exact hx pins σ H s e s' I hq
  · cases fl with
    | ret u => exact I.after hq
    | next => exact hq.elim
    | brk => exact hq.elim
    | cont => exact hq.elim
theorem pe_callG (G : FnG X.prog X.w X.K X.mg X.base CX k f fd ps sp) (hgd : X.A.guards = some []) (hr : Room k X.A) (hm : X.mg x = some (.ref f)) (hk : PySem.W.keepIn X.K (.ref f) = true) (hb : Binds X.K fd ps ds) (hd : Vals dvs ds) (hx : Passes CX X E)
    (ha : PA X (e :: es) t) (hg : Gl X x := by rfl) (hdb : (x == ("__debug__" : Str)) = false := by decide) (he : starEach (e :: es) X.env = (false, eval e X.env) :: starEach es X.env := by rfl) (hpl : (backTo pos (starEach es X.env)).any (·.1) = false := by rfl) :
    PE X (.Call (.Name x p) (e :: es) [] pos) (tCall sp dvs E t) := ⟨fun pins s σ H Q I h => wpAny_Call_Name_kw (ld_glob I hg hm
      (PySem.W.callWith_K (h₀ := X.base) I.ok.mod.kin hk (thn (ha.run pos pins s σ H _ I h) fun us s1 ⟨vs, H1, I1, r, q⟩ => ⟨I1.kIn, goFn G hgd hr hb hd hx I1 r q⟩) he hpl) hdb)⟩
end
def outE : List Kd → En → En
  | [], _ => []
  | k :: ks, [] => none :: outE ks []
  | k :: ks, r :: ρ => (if k = .io then r else none) :: outE ks ρ
theorem outE_get : ∀ {ks : List Kd} {ρ : En} {i : Nat} {d : D}, (outE ks ρ)[i]? = some (some d) → ks[i]? = some Kd.io ∧ ρ[i]? = some (some d)
  | [], _, _, _, h => by
    unfold outE at h
    simp at h
  | k :: ks, [], 0, _, h => by
    have h : (none :: outE ks [])[0]? = _ := h
    simp at h
  | k :: ks, [], i + 1, d, h => by
    have h : (none :: outE ks [])[i + 1]? = _ := h
    rw [List.getElem?_cons_succ] at h
    have z := (outE_get h).2
    simp at z
  | k :: ks, r :: ρ, 0, d, h => by
    have h : ((if k = .io then r else none) :: outE ks ρ)[0]? = _ := h
    rw [List.getElem?_cons_zero] at h
    by_cases e : k = .io
    · rw [if_pos e] at h
      rw [e]
      exact ⟨rfl, h⟩
    · rw [if_neg e] at h
      cases h
  | k :: ks, r :: ρ, i + 1, d, h => by
    have h : ((if k = .io then r else none) :: outE ks ρ)[i + 1]? = _ := h
    rw [List.getElem?_cons_succ] at h
    have z := outE_get h
    simpa using z
theorem outE_len : ∀ {ks : List Kd} {ρ : En}, (outE ks ρ).length = ks.length
  | [], _ => rfl
  | k :: ks, [] => by
    show (none :: outE ks []).length = _
    rw [List.length_cons, outE_len, List.length_cons]
  | k :: ks, r :: ρ => by
    show (_ :: outE ks ρ).length = _
    rw [List.length_cons, outE_len, List.length_cons]
def mFun (Oi : List Kd) (n : Nat) (r : Ak) (b : MS) : En → Option (D × En) := fun ρ => (b (ρ ++ List.replicate n none)).bind fun p => match p.1 with
  | .rt d => some (d, outE Oi p.2)
  | .nx => (match r with
    | .fz => some (.none, outE Oi p.2)
    | _ => none)
  | _ => none
def noLk : List Kd → Bool
  | [] => true
  | k :: ks => !k.lock && noLk ks
theorem noLk_get : ∀ {ks : List Kd} {i : Nat} {k : Kd}, noLk ks = true → ks[i]? = some k → k.lock = false
  | [], _, _, _, h => by simp at h
  | a :: ks, 0, k, h, e => by
    have e : a = k := by simpa using e
    subst e
    have h := (Bool.and_eq_true_iff.mp (show (!a.lock && noLk ks) = true from h)).1
    simpa using h
  | a :: ks, i + 1, k, h, e => noLk_get (Bool.and_eq_true_iff.mp (show (!a.lock && noLk ks) = true from h)).2 (by simpa using e)
def spF (K : PySem.W.Frag) (Oi : List Kd) (mf : En → Option (D × En)) (r : Ak) : Sp := fun vs H Q _ => tE K Oi mf r (vs.map some) H Q
theorem spF_len {K : PySem.W.Frag} {Oi : List Kd} {mf : En → Option (D × En)} {r : Ak} {vs : List V} {H : Hp} {Q : VK} {E : XK} (n1 : hasO Oi = false) (h : spF K Oi mf r vs H Q E) : vs.length = Oi.length := by
  obtain ⟨F, ρ, d, ρ', ok, _⟩ := h
  have h : (vs.map some).length = nl Oi := ok.ls
  rw [List.length_map, nl_no n1] at h
  exact h
section
variable {K : PySem.W.Frag} {Oi Ol : List Kd} {N : List Str} {vs : List V} {F H : Hp} {ρ : En}
theorem ent_own {σ : L2.St} (n1 : hasO Oi = false) (n2 : hasO (Oi ++ Ol) = false) (hl : ρ.length = Oi.length) (hs : σ.length = Oi.length) {σl : L2.St} (hσ : σl.length = Ol.length) {m : Nat} {i : Nat} {p : Addr} : OwnAt (Oi ++ Ol) ⟨F, H, σ ++ σl, ρ ++ List.replicate m none⟩ i p ↔ OwnAt Oi ⟨F, H, σ, ρ⟩ i p := by
  have s2 : sv (Oi ++ Ol) H (σ ++ σl) i = (σ ++ σl)[i]? := sv_no n2 (by rw [List.length_append, List.length_append]; omega)
  have s1 : sv Oi H σ i = σ[i]? := sv_no n1 hs
  constructor
  · rintro ⟨k, d, h1, h2, h3, h4⟩
    have h3 : (ρ ++ List.replicate m none)[i]? = some (some d) := h3
    have hi : i < ρ.length := by
      by_cases z : i < ρ.length
      · exact z
      · rw [List.getElem?_append_right (Nat.le_of_not_lt z), List.getElem?_replicate] at h3
        split at h3 <;> cases h3
    rw [List.getElem?_append_left hi] at h3
    rw [List.getElem?_append_left (by omega)] at h1
    have h4 := s2.symm.trans h4
    rw [List.getElem?_append_left (by omega)] at h4
    exact ⟨k, d, h1, h2, h3, s1.trans h4⟩
  · rintro ⟨k, d, h1, h2, h3, h4⟩
    have h3 : ρ[i]? = some (some d) := h3
    have hi : i < ρ.length := (List.getElem?_eq_some_iff.mp h3).1
    refine ⟨k, d, ?_, h2, ?_, s2.trans ?_⟩
    · rw [List.getElem?_append_left (by omega)]
      exact h1
    · show (ρ ++ List.replicate m none)[i]? = _
      rw [List.getElem?_append_left hi]
      exact h3
    · rw [List.getElem?_append_left (by omega)]
      exact s1.symm.trans h4
theorem ent_ok {σ : L2.St} {σl : L2.St} (n1 : hasO Oi = false) (n2 : hasO (Oi ++ Ol) = false) (ok : Ok K Oi ⟨F, H, σ, ρ⟩) (hσ : σl.length = Ol.length) : Ok K (Oi ++ Ol) ⟨F, H, σ ++ σl, ρ ++ List.replicate Ol.length none⟩ := by
  have hl : ρ.length = Oi.length := ok.lr
  have hs : σ.length = Oi.length := (show σ.length = nl Oi from ok.ls).trans (nl_no n1)
  have s2 : ∀ i, sv (Oi ++ Ol) H (σ ++ σl) i = (σ ++ σl)[i]? := fun i => sv_no n2 (by rw [List.length_append, List.length_append]; omega)
  have s1 : ∀ i, sv Oi H σ i = σ[i]? := fun i => sv_no n1 hs
  have low : ∀ {i : Nat} {d : D}, (ρ ++ List.replicate Ol.length none)[i]? = some (some d) → i < ρ.length ∧ ρ[i]? = some (some d) := fun {i d} h => by
    have hi : i < ρ.length := by
      by_cases z : i < ρ.length
      · exact z
      · rw [List.getElem?_append_right (Nat.le_of_not_lt z), List.getElem?_replicate] at h
        split at h <;> cases h
    rw [List.getElem?_append_left hi] at h
    exact ⟨hi, h⟩
  refine ⟨ok.sub, ?_, ?_, fun i d h1 h2 => ?_, fun i k d h1 h2 h3 => ?_, fun i j p h1 h2 => ok.ap i j p ((ent_own n1 n2 hl hs hσ).mp h1) ((ent_own n1 n2 hl hs hσ).mp h2), fun e => (by rw [n2] at e; cases e), ok.tb⟩
  · show (σ ++ σl).length = _
    rw [nl_no n2, List.length_append, List.length_append, hs, hσ]
  · show (ρ ++ _).length = _
    rw [List.length_append, List.length_append, List.length_replicate, hl]
  · obtain ⟨hi, h3⟩ := low h2
    rw [List.getElem?_append_left (by omega)] at h1
    obtain ⟨v, g1, g2⟩ := ok.fz i d h1 h3
    exact ⟨v, (s2 i).trans (by rw [List.getElem?_append_left (by omega)]; exact (s1 i).symm.trans g1), g2⟩
  · obtain ⟨hi, h4⟩ := low h3
    rw [List.getElem?_append_left (by omega)] at h1
    obtain ⟨p, g1, g2⟩ := ok.ow i k d h1 h2 h4
    exact ⟨p, (s2 i).trans (by rw [List.getElem?_append_left (by omega)]; exact (s1 i).symm.trans g1), g2⟩
theorem ext_ok {σ σ' : L2.St} {σl : L2.St} {F' H' : Hp} {ρ' : En} {r : Ak} {d : D} {v : V} (n1 : hasO Oi = false) (n2 : hasO (Oi ++ Ol) = false) (hσ : σl.length = Ol.length) (hnl : noLk Oi = true) (hr : ∀ i, r ≠ .br i) (ok : Ok K Oi ⟨F, H, σ, ρ⟩) (ok' : Ok K (Oi ++ Ol) ⟨F', H', σ', ρ'⟩)
    (st : StpS (Oi ++ Ol) ⟨F, H, σ ++ σl, ρ ++ List.replicate Ol.length none⟩ ⟨F', H', σ', ρ'⟩) (rs : Rs K (Oi ++ Ol) ⟨F, H, σ ++ σl, ρ ++ List.replicate Ol.length none⟩ ⟨F', H', σ', ρ'⟩ r d v) :
    Ok K Oi ⟨F', H', σ, outE Oi ρ'⟩ ∧ Stp Oi ⟨F, H, σ, ρ⟩ ⟨F', H', σ, outE Oi ρ'⟩ ∧ Rs K Oi ⟨F, H, σ, ρ⟩ ⟨F', H', σ, outE Oi ρ'⟩ r d v := by
  have hl : ρ.length = Oi.length := ok.lr
  have hs : σ.length = Oi.length := (show σ.length = nl Oi from ok.ls).trans (nl_no n1)
  have hs' : σ'.length = (Oi ++ Ol).length := (show σ'.length = nl (Oi ++ Ol) from ok'.ls).trans (nl_no n2)
  have s2 : ∀ i, sv (Oi ++ Ol) H (σ ++ σl) i = (σ ++ σl)[i]? := fun i => sv_no n2 (by rw [List.length_append, List.length_append]; omega)
  have s2' : ∀ i, sv (Oi ++ Ol) H' σ' i = σ'[i]? := fun i => sv_no n2 hs'
  have s1 : ∀ (H : Hp) i, sv Oi H σ i = σ[i]? := fun H i => sv_no n1 hs
  have fp : ∀ {b : Addr}, Fp (Oi ++ Ol) ⟨F, H, σ ++ σl, ρ ++ List.replicate Ol.length none⟩ b ↔ Fp Oi ⟨F, H, σ, ρ⟩ b := ⟨fun ⟨i, h⟩ => ⟨i, (ent_own n1 n2 hl hs hσ).mp h⟩, fun ⟨i, h⟩ => ⟨i, (ent_own n1 n2 hl hs hσ).mpr h⟩⟩
  have at_ : ∀ {i : Nat}, Oi[i]? = some Kd.io → (Oi ++ Ol)[i]? = some Kd.io ∧ σ'[i]? = σ[i]? := fun {i} h => by
    have hi : i < Oi.length := (List.getElem?_eq_some_iff.mp h).1
    have h' : (Oi ++ Ol)[i]? = some Kd.io := by
      rw [List.getElem?_append_left hi]
      exact h
    have z := st.pn i _ h' rfl
    have z : σ'[i]? = (σ ++ σl)[i]? := (s2' i).symm.trans ((show sv (Oi ++ Ol) H' σ' i = sv (Oi ++ Ol) H (σ ++ σl) i from z).trans (s2 i))
    rw [List.getElem?_append_left (by omega)] at z
    exact ⟨h', z⟩
  have back : ∀ {i : Nat} {p : Addr}, OwnAt Oi ⟨F', H', σ, outE Oi ρ'⟩ i p → OwnAt (Oi ++ Ol) ⟨F', H', σ', ρ'⟩ i p := fun {i p} ⟨k, d', h1, h2, h3, h4⟩ => by
    obtain ⟨g1, g2⟩ := outE_get h3
    obtain ⟨e1, e2⟩ := at_ g1
    exact ⟨_, d', e1, rfl, g2, (s2' i).trans (e2.trans ((s1 H' i).symm.trans h4))⟩
  refine ⟨⟨ok'.sub, ok.ls, outE_len, fun i d' h1 h2 => ?_, fun i k d' h1 h2 h3 => ?_, fun i j p h1 h2 => ok'.ap i j p (back h1) (back h2), fun e => (by rw [n1] at e; cases e), ok'.tb⟩,
    StpS.no n1 ⟨st.ex, fun b o h z _ => st.kp b o h (fun q => z (fp.mp q)) (fun e => by rw [n2] at e; cases e), fun b o h z => st.nw b o h fun q => z (fp.mp q), fun b ⟨i, h⟩ => ?_, fun i _ _ _ => (s1 H' i).trans (s1 H i).symm, fun i k h1 h2 => ?_, fun i k p d' h1 h2 => ?_, fun e => (by rw [n1] at e; cases e), st.tb⟩, ?_⟩
  · have := (outE_get h2).1
    rw [h1] at this
    cases this
  · obtain ⟨g1, g2⟩ := outE_get h3
    obtain ⟨e1, e2⟩ := at_ g1
    obtain ⟨p, q1, q2⟩ := ok'.ow i _ d' e1 rfl g2
    exact ⟨p, (s1 H' i).trans (e2.symm.trans ((s2' i).symm.trans q1)), q2⟩
  · rcases st.fp b ⟨i, back h⟩ with q | q
    · exact .inl (fp.mp q)
    · exact .inr q
  · rw [noLk_get hnl h1] at h2
    cases h2
  · rw [noLk_get hnl h1] at h2
    cases h2
  · cases r with
    | fz => exact rs
    | ow =>
      obtain ⟨p, e, h1, h2, h3, h4, h5⟩ := rs
      refine ⟨p, e, h1, h2, fun ⟨i, z⟩ => h3 ⟨i, back z⟩, ?_, fun e => by rw [n1] at e; cases e⟩
      rcases h4 with h4 | h4
      · exact .inl (fp.mp h4)
      · exact .inr h4
    | br i => exact (hr i rfl).elim
end
section
variable {P : Program} {w : World} {K : PySem.W.Frag} {mg : Str → Option Value} {base : Heap} {f : Addr} {fd : FuncData}
theorem fn_data {x qual : Str} {params : Arguments} {body : List Stmt} {scope : Scope} {dvs : List V} {kws : List (Str × V)} {N ps : List Str} {k : Nat} {Oi Ol : List Kd} {b : MS} {r : Ak} (F : FunD K x qual params body scope dvs kws f fd) (S : FnScope N ps scope)
    (hi : Oi.length = ps.length) (hN : N.length = Oi.length + Ol.length) (hnl : noLk Oi = true) (hr : ∀ i, r ≠ .br i)
    (hb : ∀ (cd : Value) (A : Around) (outer : List Env) (s : Shared) (H : Hp) (E : XK), A.guards = some [] → Room k (A.deeper (envOfC qual scope s.heap.objs.size f cd)) →
      PSs (cxOf CX0 P w K mg base N qual scope f cd A outer s H E).nox body (tS K (Oi ++ Ol) b r)) (n1 : hasO Oi = false := by rfl) (n2 : hasO (Oi ++ Ol) = false := by rfl) : FnG P w K mg base CX0 (k + 1) f fd ps (spF K Oi (mFun Oi Ol.length r b) r) := by
  refine fnG_of F S (fun vs H Q E h => (spF_len n1 h).trans hi) fun cd A outer s H vs Q E g hr' h => ?_
  refine ⟨_, (hb cd A outer s H E g hr').nox, ?_⟩
  have hv := spF_len n1 h
  obtain ⟨Fz, ρ, d, ρ', ok, hm, q⟩ := h
  obtain ⟨⟨fl, ρ1⟩, h1, h2⟩ := bind_some hm
  have hst : L2.start N vs = vs.map some ++ List.replicate Ol.length none := by
    unfold L2.start
    rw [hN, hv, Nat.add_sub_cancel_left]
  rw [hst]
  refine ⟨Fz, _, fl, ρ1, ent_ok (Ol := Ol) n1 n2 ok (List.length_replicate), h1, ?_⟩
  cases fl with
  | nx =>
    cases r with
    | ow => cases h2
    | br i => cases h2
    | fz =>
    cases h2
    intro σ' F' H' ok' st
    obtain ⟨o1, o2, o3⟩ := ext_ok (d := .none) (v := .non) (r := .fz) n1 n2 (List.length_replicate) hnl (fun _ z => by cases z) ok ok' st rfl
    exact q .non F' H' o1 o2 o3
  | rt d' =>
    cases h2
    intro v σ' F' H' ok' st rs
    obtain ⟨o1, o2, o3⟩ := ext_ok n1 n2 (List.length_replicate) hnl hr ok ok' st rs
    exact q v F' H' o1 o2 o3
  | bk => cases h2
  | ct => cases h2
end
def brs : List Ak → List Nat
  | [] => []
  | .br i :: ks => i :: brs ks
  | .fz :: ks => brs ks
  | .ow :: ks => brs ks
def ows : List Ak → Nat
  | [] => 0
  | .ow :: ks => ows ks + 1
  | .fz :: ks => ows ks
  | .br _ :: ks => ows ks
def mutK : Option Kd → Bool
  | some .ow => true
  | some .io => true
  | _ => false
def sig1 (O : List Kd) : List Ak → List Kd → Bool
  | [], oi => oi.all fun k => decide (k = .fz)
  | .fz :: ks, .fz :: oi => sig1 O ks oi
  | .ow :: ks, .ow :: oi => sig1 O ks oi
  | .br i :: ks, .io :: oi => mutK O[i]? && sig1 O ks oi
  | _, _ => false
def sigOk (O : List Kd) (ks : List Ak) (oi : List Kd) : Bool := sig1 O ks oi && (decide (brs ks).Nodup && decide (ows ks ≤ 1))
def putB : List Ak → En → En → En
  | [], _, ρ => ρ
  | .br i :: ks, o :: os, ρ => putB ks os (ρ.set i o)
  | .fz :: ks, _ :: os, ρ => putB ks os ρ
  | .ow :: ks, _ :: os, ρ => putB ks os ρ
  | _ :: _, [], ρ => ρ
def mCall (mf : En → Option (D × En)) (ks : List Ak) (dd : List D) (ma : MA) : M := fun ρ => (ma ρ).bind fun p => (fill ks p.1 p.2).bind fun ds => (mf ((ds ++ dd).map some)).bind fun z => some (z.1, putB ks z.2 p.2)
theorem putB_len : ∀ {ks : List Ak} {os ρ : En}, (putB ks os ρ).length = ρ.length
  | [], _, _ => rfl
  | .br i :: ks, o :: os, ρ => by
    show (putB ks os (ρ.set i o)).length = _
    rw [putB_len, List.length_set]
  | .fz :: ks, o :: os, ρ => putB_len (ks := ks) (os := os)
  | .ow :: ks, o :: os, ρ => putB_len (ks := ks) (os := os)
  | .br i :: ks, [], ρ => rfl
  | .fz :: ks, [], ρ => rfl
  | .ow :: ks, [], ρ => rfl
theorem putB_get : ∀ {ks : List Ak} {os ρ : En} {i : Nat}, (brs ks).Nodup → (i ∉ brs ks ∧ (putB ks os ρ)[i]? = ρ[i]?) ∨ (i ∈ brs ks ∧ ∃ j : Nat, ks[j]? = some (.br i) ∧ ((∃ o, os[j]? = some o ∧ (putB ks os ρ)[i]? = (ρ.set i o)[i]?) ∨ (os[j]? = none ∧ (putB ks os ρ)[i]? = ρ[i]?)))
  | [], _, _, i, _ => .inl ⟨by simp [brs], rfl⟩
  | .br n :: ks, o :: os, ρ, i, h => by
    have hn : n ∉ brs ks ∧ (brs ks).Nodup := List.nodup_cons.mp h
    have ih := putB_get (ks := ks) (os := os) (ρ := ρ.set n o) (i := i) hn.2
    by_cases e : n = i
    · subst e
      rcases ih with ⟨_, q⟩ | ⟨z, _⟩
      · exact .inr ⟨List.mem_cons_self, 0, rfl, .inl ⟨o, rfl, q⟩⟩
      · exact (hn.1 z).elim
    · rcases ih with ⟨z, q⟩ | ⟨z, j, j1, j2⟩
      · refine .inl ⟨fun m => ?_, ?_⟩
        · rcases List.mem_cons.mp m with m | m
          · exact e m.symm
          · exact z m
        · show (putB ks os (ρ.set n o))[i]? = _
          rw [q, List.getElem?_set_ne e]
      · refine .inr ⟨List.mem_cons_of_mem _ z, j + 1, j1, ?_⟩
        rcases j2 with ⟨o', j2, j3⟩ | ⟨j2, j3⟩
        · refine .inl ⟨o', by simpa using j2, ?_⟩
          show (putB ks os (ρ.set n o))[i]? = _
          rw [j3]
          by_cases hl : i < ρ.length
          · rw [List.getElem?_set_self (by rw [List.length_set]; exact hl), List.getElem?_set_self hl]
          · rw [List.getElem?_eq_none (by rw [List.length_set, List.length_set]; omega), List.getElem?_eq_none (by rw [List.length_set]; omega)]
        · refine .inr ⟨by simpa using j2, ?_⟩
          show (putB ks os (ρ.set n o))[i]? = _
          rw [j3, List.getElem?_set_ne e]
  | .br n :: ks, [], ρ, i, h => by
    have hn : n ∉ brs ks ∧ (brs ks).Nodup := List.nodup_cons.mp h
    by_cases m : i ∈ brs (.br n :: ks)
    · refine .inr ⟨m, ?_⟩
      have key : ∀ {ks : List Ak}, i ∈ brs ks → ∃ j : Nat, ks[j]? = some (.br i) := fun {ks} => by
        induction ks with
        | nil => exact fun h => by simp [brs] at h
        | cons a ks ih =>
          intro h
          cases a with
          | br n =>
            rcases List.mem_cons.mp h with e | e
            · exact ⟨0, by rw [e]; rfl⟩
            · obtain ⟨j, q⟩ := ih e
              exact ⟨j + 1, by simpa using q⟩
          | fz =>
            obtain ⟨j, q⟩ := ih h
            exact ⟨j + 1, by simpa using q⟩
          | ow =>
            obtain ⟨j, q⟩ := ih h
            exact ⟨j + 1, by simpa using q⟩
      obtain ⟨j, q⟩ := key m
      exact ⟨j, q, .inr ⟨by simp, rfl⟩⟩
    · exact .inl ⟨m, rfl⟩
  | .fz :: ks, o :: os, ρ, i, h => by
    rcases putB_get (ks := ks) (os := os) (ρ := ρ) (i := i) h with ⟨z, q⟩ | ⟨z, j, j1, j2⟩
    · exact .inl ⟨z, q⟩
    · exact .inr ⟨z, j + 1, by simpa using j1, by simpa [putB] using j2⟩
  | .ow :: ks, o :: os, ρ, i, h => by
    rcases putB_get (ks := ks) (os := os) (ρ := ρ) (i := i) h with ⟨z, q⟩ | ⟨z, j, j1, j2⟩
    · exact .inl ⟨z, q⟩
    · exact .inr ⟨z, j + 1, by simpa using j1, by simpa [putB] using j2⟩
  | .fz :: ks, [], ρ, i, h => by
    by_cases m : i ∈ brs (.fz :: ks)
    · have key : ∀ {ks : List Ak}, i ∈ brs ks → ∃ j : Nat, ks[j]? = some (.br i) := fun {ks} => by
        induction ks with
        | nil => exact fun h => by simp [brs] at h
        | cons a ks ih =>
          intro h
          cases a with
          | br n =>
            rcases List.mem_cons.mp h with e | e
            · exact ⟨0, by rw [e]; rfl⟩
            · obtain ⟨j, q⟩ := ih e
              exact ⟨j + 1, by simpa using q⟩
          | fz =>
            obtain ⟨j, q⟩ := ih h
            exact ⟨j + 1, by simpa using q⟩
          | ow =>
            obtain ⟨j, q⟩ := ih h
            exact ⟨j + 1, by simpa using q⟩
      obtain ⟨j, q⟩ := key m
      exact .inr ⟨m, j, q, .inr ⟨by simp, rfl⟩⟩
    · exact .inl ⟨m, rfl⟩
  | .ow :: ks, [], ρ, i, h => by
    by_cases m : i ∈ brs (.ow :: ks)
    · have key : ∀ {ks : List Ak}, i ∈ brs ks → ∃ j : Nat, ks[j]? = some (.br i) := fun {ks} => by
        induction ks with
        | nil => exact fun h => by simp [brs] at h
        | cons a ks ih =>
          intro h
          cases a with
          | br n =>
            rcases List.mem_cons.mp h with e | e
            · exact ⟨0, by rw [e]; rfl⟩
            · obtain ⟨j, q⟩ := ih e
              exact ⟨j + 1, by simpa using q⟩
          | fz =>
            obtain ⟨j, q⟩ := ih h
            exact ⟨j + 1, by simpa using q⟩
          | ow =>
            obtain ⟨j, q⟩ := ih h
            exact ⟨j + 1, by simpa using q⟩
      obtain ⟨j, q⟩ := key m
      exact .inr ⟨m, j, q, .inr ⟨by simp, rfl⟩⟩
    · exact .inl ⟨m, rfl⟩
theorem brs_mem {i : Nat} : ∀ {ks : List Ak} {j : Nat}, ks[j]? = some (.br i) → i ∈ brs ks
  | [], _, h => by simp at h
  | a :: ks, 0, h => by
    have h : a = .br i := by simpa using h
    rw [h]
    exact List.mem_cons_self
  | a :: ks, j + 1, h => by
    have q := brs_mem (ks := ks) (j := j) (by simpa using h)
    cases a with
    | br n => exact List.mem_cons_of_mem _ q
    | fz => exact q
    | ow => exact q
theorem brs_inj {i : Nat} : ∀ {ks : List Ak} {j j' : Nat}, (brs ks).Nodup → ks[j]? = some (.br i) → ks[j']? = some (.br i) → j = j'
  | [], _, _, _, h, _ => by simp at h
  | a :: ks, 0, 0, _, _, _ => rfl
  | a :: ks, 0, j' + 1, hn, h, h' => by
    have h : a = .br i := by simpa using h
    subst h
    exact ((List.nodup_cons.mp (show (i :: brs ks).Nodup from hn)).1 (brs_mem (by simpa using h'))).elim
  | a :: ks, j + 1, 0, hn, h, h' => by
    have h' : a = .br i := by simpa using h'
    subst h'
    exact ((List.nodup_cons.mp (show (i :: brs ks).Nodup from hn)).1 (brs_mem (by simpa using h))).elim
  | a :: ks, j + 1, j' + 1, hn, h, h' => by
    have hn' : (brs ks).Nodup := by
      cases a with
      | br n => exact (List.nodup_cons.mp (show (n :: brs ks).Nodup from hn)).2
      | fz => exact hn
      | ow => exact hn
    exact congrArg (· + 1) (brs_inj (ks := ks) (j := j) (j' := j') hn' (by simpa using h) (by simpa using h'))
theorem ows_pos : ∀ {ks : List Ak} {j : Nat}, ks[j]? = some .ow → 0 < ows ks
  | [], _, h => by simp at h
  | a :: ks, 0, h => by
    have h : a = .ow := by simpa using h
    rw [h]
    exact Nat.succ_pos _
  | a :: ks, j + 1, h => by
    have q := ows_pos (ks := ks) (j := j) (by simpa using h)
    cases a with
    | br n => exact q
    | fz => exact q
    | ow => exact Nat.succ_pos _
theorem ows_inj : ∀ {ks : List Ak} {j j' : Nat}, ows ks ≤ 1 → ks[j]? = some .ow → ks[j']? = some .ow → j = j'
  | [], _, _, _, h, _ => by simp at h
  | a :: ks, 0, 0, _, _, _ => rfl
  | a :: ks, 0, j' + 1, hn, h, h' => by
    have h : a = .ow := by simpa using h
    subst h
    have q := ows_pos (ks := ks) (j := j') (by simpa using h')
    have hn : ows ks + 1 ≤ 1 := hn
    omega
  | a :: ks, j + 1, 0, hn, h, h' => by
    have h' : a = .ow := by simpa using h'
    subst h'
    have q := ows_pos (ks := ks) (j := j) (by simpa using h)
    have hn : ows ks + 1 ≤ 1 := hn
    omega
  | a :: ks, j + 1, j' + 1, hn, h, h' => by
    have hn' : ows ks ≤ 1 := by
      cases a with
      | br n => exact hn
      | fz => exact hn
      | ow =>
        have hn : ows ks + 1 ≤ 1 := hn
        omega
    exact congrArg (· + 1) (ows_inj (ks := ks) (j := j) (j' := j') hn' (by simpa using h) (by simpa using h'))
theorem sig1_get {O : List Kd} : ∀ {ks : List Ak} {oi : List Kd} {j : Nat} {q : Kd}, sig1 O ks oi = true → oi[j]? = some q →
    (ks[j]? = none ∧ q = .fz) ∨ (ks[j]? = some .fz ∧ q = .fz) ∨ (ks[j]? = some .ow ∧ q = .ow) ∨ ∃ i, ks[j]? = some (.br i) ∧ q = .io ∧ mutK O[i]? = true
  | [], oi, j, q, h, e => .inl ⟨by simp, by
    have h : (oi.all fun k => decide (k = .fz)) = true := h
    exact of_decide_eq_true (List.all_eq_true.mp h q (List.mem_of_getElem? e))⟩
  | .fz :: ks, .fz :: oi, 0, q, h, e => .inr (.inl ⟨rfl, by simpa using e.symm⟩)
  | .fz :: ks, .fz :: oi, j + 1, q, h, e => by simpa using sig1_get (ks := ks) (oi := oi) (j := j) h (by simpa using e)
  | .ow :: ks, .ow :: oi, 0, q, h, e => .inr (.inr (.inl ⟨rfl, by simpa using e.symm⟩))
  | .ow :: ks, .ow :: oi, j + 1, q, h, e => by simpa using sig1_get (ks := ks) (oi := oi) (j := j) h (by simpa using e)
  | .br i :: ks, .io :: oi, 0, q, h, e => .inr (.inr (.inr ⟨i, rfl, by simpa using e.symm, (Bool.and_eq_true_iff.mp h).1⟩))
  | .br i :: ks, .io :: oi, j + 1, q, h, e => by simpa using sig1_get (ks := ks) (oi := oi) (j := j) (Bool.and_eq_true_iff.mp h).2 (by simpa using e)
  | .fz :: ks, [], _, _, h, _ => by cases h
  | .ow :: ks, [], _, _, h, _ => by cases h
  | .br _ :: ks, [], _, _, h, _ => by cases h
  | .fz :: ks, .ow :: oi, _, _, h, _ => by cases h
  | .fz :: ks, .io :: oi, _, _, h, _ => by cases h
  | .fz :: ks, .lk :: oi, _, _, h, _ => by cases h
  | .fz :: ks, .li :: oi, _, _, h, _ => by cases h
  | .ow :: ks, .fz :: oi, _, _, h, _ => by cases h
  | .ow :: ks, .io :: oi, _, _, h, _ => by cases h
  | .ow :: ks, .lk :: oi, _, _, h, _ => by cases h
  | .ow :: ks, .li :: oi, _, _, h, _ => by cases h
  | .br _ :: ks, .fz :: oi, _, _, h, _ => by cases h
  | .br _ :: ks, .ow :: oi, _, _, h, _ => by cases h
  | .br _ :: ks, .lk :: oi, _, _, h, _ => by cases h
  | .br _ :: ks, .li :: oi, _, _, h, _ => by cases h
theorem Rss.at {K : PySem.W.Frag} {O : List Kd} {w w' : Wd} : ∀ {ks : List Ak} {ds es : List D} {vs : List V} {ρ : En} {j : Nat} {k : Ak}, Rss K O w w' ks ds vs → fill ks ds ρ = some es → ks[j]? = some k →
    ∃ d v e, vs[j]? = some v ∧ es[j]? = some e ∧ Rs K O w w' k d v ∧ (k = .fz ∨ k = .ow → e = d) ∧ ∀ i, k = .br i → ρ[i]? = some (some e)
  | [], _, _, _, _, _, _, _, _, h => by simp at h
  | .br i :: ks, _, es, _, ρ, j, k, ⟨d, ds', v, vs', h1, h2, h3, h4⟩, hf, hj => by
    subst h1 h2
    obtain ⟨d', e1, e2⟩ := slot_some hf
    obtain ⟨es', e3, e4⟩ := map_some e2
    subst e4
    cases j with
    | zero =>
      have hj : .br i = k := by simpa using hj
      subst hj
      refine ⟨d, v, d', rfl, rfl, h3, fun z => ?_, fun n z => ?_⟩
      · rcases z with z | z <;> cases z
      · cases z
        exact e1
    | succ j =>
      obtain ⟨d2, v2, e, g1, g2, g3⟩ := h4.at e3 (j := j) (by simpa using hj)
      exact ⟨d2, v2, e, by simpa using g1, by simpa using g2, g3⟩
  | .fz :: ks, _, es, _, ρ, j, k, ⟨d, ds', v, vs', h1, h2, h3, h4⟩, hf, hj => by
    subst h1 h2
    obtain ⟨es', e3, e4⟩ := map_some hf
    subst e4
    cases j with
    | zero =>
      have hj : .fz = k := by simpa using hj
      subst hj
      exact ⟨d, v, d, rfl, rfl, h3, fun _ => rfl, fun n z => by cases z⟩
    | succ j =>
      obtain ⟨d2, v2, e, g1, g2, g3⟩ := h4.at e3 (j := j) (by simpa using hj)
      exact ⟨d2, v2, e, by simpa using g1, by simpa using g2, g3⟩
  | .ow :: ks, _, es, _, ρ, j, k, ⟨d, ds', v, vs', h1, h2, h3, h4⟩, hf, hj => by
    subst h1 h2
    obtain ⟨es', e3, e4⟩ := map_some hf
    subst e4
    cases j with
    | zero =>
      have hj : .ow = k := by simpa using hj
      subst hj
      exact ⟨d, v, d, rfl, rfl, h3, fun _ => rfl, fun n z => by cases z⟩
    | succ j =>
      obtain ⟨d2, v2, e, g1, g2, g3⟩ := h4.at e3 (j := j) (by simpa using hj)
      exact ⟨d2, v2, e, by simpa using g1, by simpa using g2, g3⟩
theorem Rss.len {K : PySem.W.Frag} {O : List Kd} {w w' : Wd} : ∀ {ks : List Ak} {ds es : List D} {vs : List V} {ρ : En}, Rss K O w w' ks ds vs → fill ks ds ρ = some es → vs.length = ks.length ∧ es.length = ks.length
  | [], _, _, _, _, ⟨h1, h2⟩, hf => by
    subst h1 h2
    cases hf
    exact ⟨rfl, rfl⟩
  | .br i :: ks, _, es, _, ρ, ⟨d, ds', v, vs', h1, h2, h3, h4⟩, hf => by
    subst h1 h2
    obtain ⟨d', e1, e2⟩ := slot_some hf
    obtain ⟨es', e3, e4⟩ := map_some e2
    subst e4
    obtain ⟨a, b⟩ := h4.len e3
    exact ⟨by simp [a], by simp [b]⟩
  | .fz :: ks, _, es, _, ρ, ⟨d, ds', v, vs', h1, h2, h3, h4⟩, hf => by
    subst h1 h2
    obtain ⟨es', e3, e4⟩ := map_some hf
    subst e4
    obtain ⟨a, b⟩ := h4.len e3
    exact ⟨by simp [a], by simp [b]⟩
  | .ow :: ks, _, es, _, ρ, ⟨d, ds', v, vs', h1, h2, h3, h4⟩, hf => by
    subst h1 h2
    obtain ⟨es', e3, e4⟩ := map_some hf
    subst e4
    obtain ⟨a, b⟩ := h4.len e3
    exact ⟨by simp [a], by simp [b]⟩
section
variable {K : PySem.W.Frag} {O Oi : List Kd} {ks : List Ak} {dd : List D} {dvs : List V}
theorem call_ok {w w1 : Wd} {ds es : List D} {vs : List V} (n1 : hasO Oi = false) (hl : es.length + dd.length = Oi.length) (hs : sigOk O ks Oi = true) (hdd : ∀ F : Hp, RpA K F dd dvs) (st : Stp O w w1) (ok : Ok K O w1) (r : Rss K O w w1 ks ds vs) (hf : fill ks ds w1.ρ = some es) :
    Ok K Oi ⟨w1.F, w1.H, (vs ++ dvs).map some, (es ++ dd).map some⟩ ∧
    (∀ (j : Nat) (p : Addr), OwnAt Oi ⟨w1.F, w1.H, (vs ++ dvs).map some, (es ++ dd).map some⟩ j p → (∃ i, ks[j]? = some (.br i) ∧ OwnAt O w1 i p) ∨ (ks[j]? = some .ow ∧ ¬ Fp O w1 p ∧ (Fp O w p ∨ w.H p = none) ∧ (hasO O = true → p ≠ ob O w1.σ))) := by
  obtain ⟨h1, h2⟩ := Bool.and_eq_true_iff.mp hs
  obtain ⟨h2, h3⟩ := Bool.and_eq_true_iff.mp h2
  have h2 := of_decide_eq_true h2
  have h3 := of_decide_eq_true h3
  obtain ⟨l1, l2⟩ := r.len hf
  have ld : dvs.length = dd.length := (hdd fun _ => none).length
  have inL : ∀ {j : Nat} {v : V}, vs[j]? = some v → ((vs ++ dvs).map some)[j]? = some (some v) := fun {j v} e => by
    have hj := (List.getElem?_eq_some_iff.mp e).1
    rw [List.getElem?_map, List.getElem?_append_left hj, e]
    rfl
  have lv : ((vs ++ dvs).map some).length = Oi.length := by
    rw [List.length_map, List.length_append]
    omega
  have s1 : ∀ j, sv Oi w1.H ((vs ++ dvs).map some) j = ((vs ++ dvs).map some)[j]? := fun j => sv_no n1 lv
  have inD : ∀ {j : Nat} {d : D}, es[j]? = some d → ((es ++ dd).map some)[j]? = some (some d) := fun {j d} e => by
    have hj := (List.getElem?_eq_some_iff.mp e).1
    rw [List.getElem?_map, List.getElem?_append_left hj, e]
    rfl
  have own : ∀ (j : Nat) (p : Addr), OwnAt Oi ⟨w1.F, w1.H, (vs ++ dvs).map some, (es ++ dd).map some⟩ j p → (∃ i, ks[j]? = some (.br i) ∧ OwnAt O w1 i p) ∨ (ks[j]? = some .ow ∧ ¬ Fp O w1 p ∧ (Fp O w p ∨ w.H p = none) ∧ (hasO O = true → p ≠ ob O w1.σ)) := by
    rintro j p ⟨k, d, g1, g2, g3, g4⟩
    rcases sig1_get h1 g1 with ⟨_, e⟩ | ⟨_, e⟩ | ⟨e1, e⟩ | ⟨i, e1, e, e2⟩
    · rw [e] at g2
      cases g2
    · rw [e] at g2
      cases g2
    · obtain ⟨d', v, e', q1, q2, q3, q4, q5⟩ := r.at hf e1
      have g4 : ((vs ++ dvs).map some)[j]? = some (some (.ref p)) := (s1 j).symm.trans g4
      rw [inL q1] at g4
      cases g4
      obtain ⟨p', z1, z2, z3, z4, z5, z6⟩ := q3
      cases z1
      exact .inr ⟨e1, z4, z5, z6⟩
    · obtain ⟨d', v, e', q1, q2, q3, q4, q5⟩ := r.at hf e1
      have g4 : ((vs ++ dvs).map some)[j]? = some (some (.ref p)) := (s1 j).symm.trans g4
      rw [inL q1] at g4
      cases g4
      obtain ⟨z1, q, z2, z3⟩ := q3
      exact .inl ⟨i, e1, q, e', z2, z3, q5 i rfl, z1⟩
  refine ⟨⟨ok.sub, ?_, ?_, fun j d g1 g2 => ?_, fun j k d g1 g2 g3 => ?_, fun j j' p g1 g2 => ?_, fun e => (by rw [n1] at e; cases e), ok.tb⟩, own⟩
  · show ((vs ++ dvs).map some).length = _
    rw [nl_no n1]
    exact lv
  · show ((es ++ dd).map some).length = _
    rw [List.length_map, List.length_append]
    exact hl
  · have g2 : ((es ++ dd).map some)[j]? = some (some d) := g2
    by_cases hj : j < es.length
    · rcases sig1_get h1 g1 with ⟨e1, e⟩ | ⟨e1, e⟩ | ⟨e1, e⟩ | ⟨i, e1, e, e2⟩
      · rw [List.getElem?_eq_none_iff] at e1
        omega
      · obtain ⟨d', v, e', q1, q2, q3, q4, q5⟩ := r.at hf e1
        rw [inD q2] at g2
        cases g2
        have := q4 (.inl rfl)
        subst this
        exact ⟨v, (s1 j).trans (inL q1), q3⟩
      · cases e
      · cases e
    · rw [List.getElem?_map, List.getElem?_append_right (Nat.le_of_not_lt hj)] at g2
      cases e : dd[j - es.length]? with
      | none =>
        rw [e] at g2
        cases g2
      | some d' =>
        rw [e] at g2
        cases g2
        obtain ⟨v, q1, q2⟩ := (hdd w1.F).get e
        refine ⟨v, (s1 j).trans ?_, q2⟩
        rw [List.getElem?_map, List.getElem?_append_right (by omega), show j - vs.length = j - es.length by omega, q1]
        rfl
  · have g3 : ((es ++ dd).map some)[j]? = some (some d) := g3
    rcases sig1_get h1 g1 with ⟨_, e⟩ | ⟨_, e⟩ | ⟨e1, e⟩ | ⟨i, e1, e, e2⟩
    · rw [e] at g2
      cases g2
    · rw [e] at g2
      cases g2
    · obtain ⟨d', v, e', q1, q2, q3, q4, q5⟩ := r.at hf e1
      rw [inD q2] at g3
      cases g3
      have := q4 (.inr rfl)
      subst this
      obtain ⟨p, rfl, z2, z3, z4⟩ := q3
      exact ⟨p, (s1 j).trans (inL q1), z2, z3⟩
    · obtain ⟨d', v, e', q1, q2, q3, q4, q5⟩ := r.at hf e1
      rw [inD q2] at g3
      cases g3
      obtain ⟨z1, q, z2, z3⟩ := q3
      obtain ⟨p, y1, y2, y3⟩ := ok.ow i q _ z2 z3 (q5 i rfl)
      rw [z1] at y1
      cases y1
      exact ⟨p, (s1 j).trans (inL q1), y2, y3⟩
  · rcases own j p g1 with ⟨i, e1, o1⟩ | ⟨e1, n1, _⟩ <;> rcases own j' p g2 with ⟨i', e2, o2⟩ | ⟨e2, n2, _⟩
    · have := ok.ap i i' p o1 o2
      subst this
      exact brs_inj h2 e1 e2
    · exact (n2 ⟨i, o1⟩).elim
    · exact (n1 ⟨i', o2⟩).elim
    · exact ows_inj h3 e1 e2
theorem call_back {w w1 : Wd} {es : List D} {vs : List V} {F2 H2 : Hp} {out : En} {r : Ak} {d : D} {v : V} (n1 : hasO Oi = false) (hs : sigOk O ks Oi = true) (hnl : noLk Oi = true) (hr : ∀ i, r ≠ .br i) (st : Stp O w w1) (ok : Ok K O w1)
    (okc : Ok K Oi ⟨w1.F, w1.H, (vs ++ dvs).map some, (es ++ dd).map some⟩)
    (own : ∀ (j : Nat) (p : Addr), OwnAt Oi ⟨w1.F, w1.H, (vs ++ dvs).map some, (es ++ dd).map some⟩ j p → (∃ i, ks[j]? = some (.br i) ∧ OwnAt O w1 i p) ∨ (ks[j]? = some .ow ∧ ¬ Fp O w1 p ∧ (Fp O w p ∨ w.H p = none) ∧ (hasO O = true → p ≠ ob O w1.σ)))
    (hbr : ∀ (j i : Nat), ks[j]? = some (.br i) → ∃ v', ((vs ++ dvs).map some)[j]? = some (some v') ∧ w1.sv O i = some (some v'))
    (okr : Ok K Oi ⟨F2, H2, (vs ++ dvs).map some, out⟩) (str : Stp Oi ⟨w1.F, w1.H, (vs ++ dvs).map some, (es ++ dd).map some⟩ ⟨F2, H2, (vs ++ dvs).map some, out⟩)
    (rs : Rs K Oi ⟨w1.F, w1.H, (vs ++ dvs).map some, (es ++ dd).map some⟩ ⟨F2, H2, (vs ++ dvs).map some, out⟩ r d v) (hlk : ks.length ≤ Oi.length) :
    Ok K O ⟨F2, H2, w1.σ, putB ks out w1.ρ⟩ ∧ Stp O w ⟨F2, H2, w1.σ, putB ks out w1.ρ⟩ ∧ Rs K O w ⟨F2, H2, w1.σ, putB ks out w1.ρ⟩ r d v := by
  obtain ⟨h1, h2⟩ := Bool.and_eq_true_iff.mp hs
  obtain ⟨h2, h3⟩ := Bool.and_eq_true_iff.mp h2
  have h2 := of_decide_eq_true h2
  have hio : ∀ {j i : Nat}, ks[j]? = some (.br i) → Oi[j]? = some Kd.io ∧ mutK O[i]? = true := fun {j i} e => by
    have hj : j < Oi.length := Nat.lt_of_lt_of_le (List.getElem?_eq_some_iff.mp e).1 hlk
    rcases sig1_get h1 (List.getElem?_eq_getElem hj) with ⟨e1, _⟩ | ⟨e1, _⟩ | ⟨e1, _⟩ | ⟨i', e1, e2, e3⟩
    · rw [e] at e1
      cases e1
    · rw [e] at e1
      cases e1
    · rw [e] at e1
      cases e1
    · rw [e] at e1
      cases e1
      exact ⟨by rw [List.getElem?_eq_getElem hj, e2], e3⟩
  -- the callee's footprint
  have fpc : ∀ {b : Addr}, Fp Oi ⟨w1.F, w1.H, (vs ++ dvs).map some, (es ++ dd).map some⟩ b → Fp O w b ∨ w.H b = none := fun {b} ⟨j, h⟩ => by
    rcases own j b h with ⟨i, _, o⟩ | ⟨_, _, o, _⟩
    · exact st.fp b ⟨i, o⟩
    · exact o
  have nfpc : ∀ {b : Addr} {o : HO}, w.H b = some o → ¬ Fp O w b → ¬ Fp Oi ⟨w1.F, w1.H, (vs ++ dvs).map some, (es ++ dd).map some⟩ b := fun {b o} e z q => by
    rcases fpc q with q | q
    · exact z q
    · rw [e] at q
      cases q
  have lv : ((vs ++ dvs).map some).length = Oi.length := (show ((vs ++ dvs).map some).length = nl Oi from okc.ls).trans (nl_no n1)
  have s1 : ∀ (H : Hp) j, sv Oi H ((vs ++ dvs).map some) j = ((vs ++ dvs).map some)[j]? := fun H j => sv_no n1 lv
  have kp2 : ∀ {b : Addr} {o : HO}, w1.H b = some o → ¬ Fp Oi ⟨w1.F, w1.H, (vs ++ dvs).map some, (es ++ dd).map some⟩ b → KH o (H2 b) := fun {b o} h z => str.kp b o h z fun e => by rw [n1] at e; cases e
  have nob : hasO O = true → ¬ Fp Oi ⟨w1.F, w1.H, (vs ++ dvs).map some, (es ++ dd).map some⟩ (ob O w1.σ) := fun e ⟨j, h⟩ => by
    rcases own j _ h with ⟨i, _, o⟩ | ⟨_, _, _, o⟩
    · exact (ok.obj e).nf ⟨i, o⟩
    · exact o e rfl
  have hob : hasO O = true → H2 (ob O w1.σ) = w1.H (ob O w1.σ) := fun e => by
    obtain ⟨C, dx, fs, y, _⟩ := (ok.obj e).ex
    rw [y]
    exact kp2 y (nob e)
  have svO : ∀ i, sv O H2 w1.σ i = w1.sv O i := fun i => sv_same hob
  -- a slot's owner behind the call
  have slot : ∀ {i : Nat} {d' : D}, (putB ks out w1.ρ)[i]? = some (some d') → (i ∉ brs ks ∧ w1.ρ[i]? = some (some d')) ∨ (∃ j : Nat, ks[j]? = some (Ak.br i) ∧ out[j]? = some (some d')) := fun {i d'} e => by
    rcases putB_get (ks := ks) (os := out) (ρ := w1.ρ) (i := i) h2 with ⟨z, q⟩ | ⟨z, j, j1, ⟨o, j2, j3⟩ | ⟨j2, j3⟩⟩
    · rw [q] at e
      exact .inl ⟨z, e⟩
    · rw [j3] at e
      rcases set_get e with ⟨_, q⟩ | ⟨q, _⟩
      · subst q
        exact .inr ⟨j, j1, j2⟩
      · exact (q rfl).elim
    · have hj : j < Oi.length := Nat.lt_of_lt_of_le (List.getElem?_eq_some_iff.mp j1).1 hlk
      rw [List.getElem?_eq_none_iff] at j2
      have : out.length = Oi.length := okr.lr
      omega
  have back : ∀ {i : Nat} {p : Addr}, OwnAt O ⟨F2, H2, w1.σ, putB ks out w1.ρ⟩ i p → (i ∉ brs ks ∧ OwnAt O w1 i p) ∨ (∃ j, ks[j]? = some (.br i) ∧ OwnAt Oi ⟨F2, H2, (vs ++ dvs).map some, out⟩ j p) := fun {i p} ⟨k, d', e1, e2, e3, e4⟩ => by
    rcases slot e3 with ⟨z, q⟩ | ⟨j, q1, q2⟩
    · exact .inl ⟨z, k, d', e1, e2, q, (svO i).symm.trans e4⟩
    · obtain ⟨v', u1, u2⟩ := hbr j i q1
      have e4 := (svO i).symm.trans e4
      rw [u2] at e4
      cases e4
      exact .inr ⟨j, q1, _, d', (hio q1).1, rfl, q2, (s1 H2 j).trans u1⟩
  -- what was owned by a slot that was not lent stands as it stood
  have keepO : ∀ {i : Nat} {p : Addr}, i ∉ brs ks → OwnAt O w1 i p → ¬ Fp Oi ⟨w1.F, w1.H, (vs ++ dvs).map some, (es ++ dd).map some⟩ p := fun {i p} z o ⟨j, h⟩ => by
    rcases own j p h with ⟨i', e, o'⟩ | ⟨_, n, _, _⟩
    · have := ok.ap i i' p o o'
      subst this
      exact z (brs_mem e)
    · exact n ⟨i, o⟩
  have fpr : ∀ {b : Addr}, Fp O ⟨F2, H2, w1.σ, putB ks out w1.ρ⟩ b → Fp O w1 b ∨ w1.H b = none ∨ Fp Oi ⟨w1.F, w1.H, (vs ++ dvs).map some, (es ++ dd).map some⟩ b := fun {b} ⟨i, h⟩ => by
    rcases back h with ⟨z, q⟩ | ⟨j, q1, q2⟩
    · exact .inl ⟨i, q⟩
    · rcases str.fp b ⟨j, q2⟩ with q | q
      · exact .inr (.inr q)
      · exact .inr (.inl q)
  have okO : Ok K O ⟨F2, H2, w1.σ, putB ks out w1.ρ⟩ := by
    refine ⟨okr.sub, ok.ls, by show (putB ks out w1.ρ).length = _; rw [putB_len]; exact ok.lr, fun i d' e1 e2 => ?_, fun i k d' e1 e2 e3 => ?_, fun i i' p e1 e2 => ?_, fun e => ?_, okr.tb⟩
    · rcases slot e2 with ⟨z, q⟩ | ⟨j, q1, q2⟩
      · obtain ⟨u, u1, u2⟩ := ok.fz i d' e1 q
        exact ⟨u, (svO i).trans u1, u2.mono str.ex⟩
      · have := (hio q1).2
        rw [e1] at this
        cases this
    · rcases slot e3 with ⟨z, q⟩ | ⟨j, q1, q2⟩
      · obtain ⟨p, u1, u2, o, u3, u4⟩ := ok.ow i k d' e1 e2 q
        have np := keepO z ⟨k, d', e1, e2, q, u1⟩
        exact ⟨p, (svO i).trans u1, str.nw p o u3 np u2, o, u4.kh (kp2 u3 np), u4.mono str.ex⟩
      · obtain ⟨v', y1, y2⟩ := hbr j i q1
        obtain ⟨p, u1, u2, u3⟩ := okr.ow j _ d' (hio q1).1 rfl q2
        have u1 : ((vs ++ dvs).map some)[j]? = some (some (.ref p)) := (s1 H2 j).symm.trans u1
        rw [y1] at u1
        cases u1
        exact ⟨p, (svO i).trans y2, u2, u3⟩
    · rcases back e1 with ⟨z, q⟩ | ⟨j, q1, q2⟩ <;> rcases back e2 with ⟨z', q'⟩ | ⟨j', q1', q2'⟩
      · exact ok.ap i i' p q q'
      · obtain ⟨_, o, u⟩ := ok.ownF ⟨i, q⟩
        rcases str.fp p ⟨j', q2'⟩ with y | y
        · exact (keepO z q y).elim
        · rw [show w1.H p = none from y] at u
          cases u
      · obtain ⟨_, o, u⟩ := ok.ownF ⟨i', q'⟩
        rcases str.fp p ⟨j, q2⟩ with y | y
        · exact (keepO z' q' y).elim
        · rw [show w1.H p = none from y] at u
          cases u
      · have := okr.ap j j' p q2 q2'
        subst this
        rw [q1] at q1'
        cases q1'
        rfl
    · obtain ⟨a0, a1, ⟨C, dx, fs, a2, a3⟩, a4, a5, a6⟩ := ok.obj e
      have ndx : ¬ Fp Oi ⟨w1.F, w1.H, (vs ++ dvs).map some, (es ++ dd).map some⟩ dx := fun ⟨j, kk, d', g1, g2, g3, g4⟩ => by
        obtain ⟨q, y1, y2, u, y3, y4⟩ := okc.ow j kk d' g1 g2 g3
        rw [g4] at y1
        cases y1
        rw [show w1.H dx = some (.own (ob O w1.σ)) from a3] at y3
        cases y3
        cases d' <;> first | exact y4.elim | (obtain ⟨_, y5, _⟩ := y4; cases y5)
      refine ⟨a0, a1, ⟨C, dx, fs, kp2 a2 (nob e), kp2 a3 ndx⟩, str.nw _ _ a2 (nob e) a4, fun h => ?_, fun C dx fs z => a6 C dx fs ((hob e).symm.trans z)⟩
      rcases fpr h with q | q | q
      · exact a5 q
      · rw [a2] at q
        cases q
      · exact nob e q
  refine ⟨okO, ⟨⟨st.ex.trans str.ex, fun b o e z _ => (st.kp' e z).trans fun o' e' => kp2 e' (nfpc e z), fun b o e z f => (let ⟨o', e'⟩ := (st.kp' e z).ex; str.nw b o' e' (nfpc e z) (st.nw b o e z f)), fun b h => ?_, fun i k e1 e2 => (svO i).trans (st.pn i k e1 e2), fun i k e1 e2 => ?_, fun i k p d' e1 e2 e3 e4 => ?_, fun e => ⟨(st.o0 e).1, fun z => ?_⟩, fun P h => str.tb P (st.tb P h)⟩, fun e => ?_⟩, ?_⟩
  · rcases fpr h with q | q | q
    · exact st.fp b q
    · exact st.back q
    · exact fpc q
  · have hi : i ∉ brs ks := fun m => by
      rcases putB_get (ks := ks) (os := out) (ρ := w1.ρ) (i := i) h2 with ⟨z, _⟩ | ⟨_, j, j1, _⟩
      · exact z m
      · have := (hio j1).2
        rw [e1] at this
        cases k <;> first | (cases e2; done) | (cases this; done)
    rcases putB_get (ks := ks) (os := out) (ρ := w1.ρ) (i := i) h2 with ⟨_, q⟩ | ⟨m, _⟩
    · exact q.trans (st.lk i k e1 e2)
    · exact (hi m).elim
  · have hi : i ∉ brs ks := fun m => by
      rcases putB_get (ks := ks) (os := out) (ρ := w1.ρ) (i := i) h2 with ⟨z, _⟩ | ⟨_, j, j1, _⟩
      · exact z m
      · have := (hio j1).2
        rw [e1] at this
        cases k <;> first | (cases e2; done) | (cases this; done)
    have o1 : OwnAt O w1 i p := ⟨k, d', e1, Kd.own_of e2, (st.lk i k e1 e2).trans e3, (st.pn i k e1 (Kd.pin_of e2)).trans e4⟩
    obtain ⟨o, u, nt⟩ := ok.ownN ⟨i, o1⟩
    have a1 : H2 p = some o := (kp2 u (keepO hi o1)).nt nt
    have a2 := st.lo i k p d' e1 e2 e3 e4
    show H2 p = w.H p
    rw [a1, ← a2, u]
  · have y := (st.o0 e).2 z
    have y2 := hob e
    rw [(st.o0 e).1] at y2
    exact fun q => y (y2.symm.trans q)
  · have y2 := hob e
    rw [(st.o0 e).1] at y2
    exact y2.trans (st.ost e)
  · cases r with
    | fz => exact rs
    | ow =>
      obtain ⟨p, e, g1, g2, g3, g4, _⟩ := rs
      refine ⟨p, e, g1, g2, fun ⟨i, h⟩ => ?_, ?_, fun e y => ?_⟩
      · rcases back h with ⟨z, q⟩ | ⟨j, q1, q2⟩
        · obtain ⟨_, o, u⟩ := ok.ownF ⟨i, q⟩
          rcases g4 with y | y
          · exact keepO z q y
          · rw [show w1.H p = none from y] at u
            cases u
        · exact g3 ⟨j, q2⟩
      · rcases g4 with y | y
        · exact fpc y
        · exact st.back y
      · have y : p = ob O w1.σ := y
        rcases g4 with z | z
        · exact nob e (y ▸ z)
        · obtain ⟨C, dx, fs, y2, _⟩ := (ok.obj e).ex
          rw [y, show w1.H (ob O w1.σ) = _ from y2] at z
          cases z
    | br i => exact (hr i rfl).elim
end
section
variable {X : Cx} {k : Nat} {f : Addr} {fd : FuncData} {ps : List Str} {O Oi : List Kd} {mf : En → Option (D × En)} {r : Ak} {dd : List D} {dvs : List V} {ds : List Value} {x : Str} {p pos : Pos} {e : Expr} {es : List Expr} {ma : MA} {ks : List Ak}
theorem e_callD (G : FnG X.prog X.w X.K X.mg X.base CX0 k f fd ps (spF X.K Oi mf r)) (hgd : X.A.guards = some []) (hr : Room k X.A) (hm : X.mg x = some (.ref f)) (hk : PySem.W.keepIn X.K (.ref f) = true) (hb : Binds X.K fd ps ds) (hd : Vals dvs ds) (hdd : ∀ F : Hp, RpA X.K F dd dvs)
    (ha : PA X (e :: es) (tA X.K O ma ks)) (hs : sigOk O ks Oi = true := by rfl) (hln : ks.length + dd.length = Oi.length := by rfl) (hnl : noLk Oi = true := by rfl) (n1 : hasO Oi = false := by rfl) (hrr : ∀ i, r ≠ .br i := by exact fun _ z => by cases z) (hg : Gl X x := by rfl) (hdb : (x == ("__debug__" : Str)) = false := by decide)
    (he : starEach (e :: es) X.env = (false, eval e X.env) :: starEach es X.env := by rfl) (hpl : (backTo pos (starEach es X.env)).any (·.1) = false := by rfl) :
    PE X (.Call (.Name x p) (e :: es) [] pos) (tE X.K O (mCall mf ks dd ma) r) := by
  refine PEi (pe_callG G hgd hr hm hk hb hd (pass0 (X := X)) ha hg hdb he hpl) fun σ H Q ⟨F, ρ, d, ρ', ok, hm, q⟩ => ?_
  obtain ⟨⟨ds0, ρ1⟩, h1, h2⟩ := bind_some hm
  obtain ⟨es0, h3, h4⟩ := bind_some h2
  obtain ⟨⟨d1, out⟩, h5, h6⟩ := bind_some h4
  cases h6
  refine ⟨F, ρ, ds0, ρ1, ok, h1, fun vs F1 H1 ok1 st1 r1 => ?_⟩
  have hl := (r1.len h3).2
  obtain ⟨okc, own⟩ := call_ok (K := X.K) (O := O) (Oi := Oi) (dd := dd) (dvs := dvs) n1 (by omega) hs hdd st1 ok1 r1 h3
  refine ⟨F1, _, d1, out, okc, h5, fun v F2 H2 okr str rs => ?_⟩
  have hbr : ∀ (j i : Nat), ks[j]? = some (.br i) → ∃ v', ((vs ++ dvs).map some)[j]? = some (some v') ∧ sv O H1 σ i = some (some v') := fun j i ej => by
    obtain ⟨d', v', e', q1, q2, q3, _⟩ := r1.at h3 ej
    have hj := (List.getElem?_eq_some_iff.mp q1).1
    refine ⟨v', ?_, q3.1⟩
    rw [List.getElem?_map, List.getElem?_append_left hj, q1]
    rfl
  obtain ⟨a, b, c⟩ := call_back (K := X.K) (O := O) (Oi := Oi) (ks := ks) n1 hs hnl hrr st1 ok1 okc own hbr okr str rs (by omega)
  exact q v F2 H2 a b c
theorem e_call (G : FnG X.prog X.w X.K X.mg X.base CX0 k f fd ps (spF X.K Oi mf r)) (hgd : X.A.guards = some []) (hr : Room k X.A) (hm : X.mg x = some (.ref f)) (hk : PySem.W.keepIn X.K (.ref f) = true) (hb : Binds X.K fd ps [])
    (ha : PA X (e :: es) (tA X.K O ma ks)) (hs : sigOk O ks Oi = true := by rfl) (hln : ks.length + 0 = Oi.length := by rfl) (hnl : noLk Oi = true := by rfl) (n1 : hasO Oi = false := by rfl) (hrr : ∀ i, r ≠ .br i := by exact fun _ z => by cases z) (hg : Gl X x := by rfl) (hdb : (x == ("__debug__" : Str)) = false := by decide)
    (he : starEach (e :: es) X.env = (false, eval e X.env) :: starEach es X.env := by rfl) (hpl : (backTo pos (starEach es X.env)).any (·.1) = false := by rfl) :
    PE X (.Call (.Name x p) (e :: es) [] pos) (tE X.K O (mCall mf ks [] ma) r) := e_callD (dd := []) (dvs := []) G hgd hr hm hk hb .nil (fun _ => rfl) ha hs hln hnl n1 hrr hg hdb he hpl
end
theorem law_goes {P : Program} {w : World} {K : PySem.W.Frag} {mg mb : Str → Option Value} {k : Nat} {fa a : Addr} {fd : FuncData} {x : Str} {sp : Sp} {s1 : Shared} {its : List Value} {ns : List Int} (inS : K.In s1.heap) (hM : s1.heap.Ns mainGlobals mg) (hB : s1.heap.Ns builtinsNs mb)
    (hv : ∀ y : Str, y ≠ "__name__" → mb y = bootBuiltins y) (noLim : s1.heap.NoLimit) (noGen : s1.gens = #[]) (hA : s1.heap.get? a = some { cls := .type "list", data := .seq its.toArray }) (hin : IntsAre its ns) (small : ns.length ≤ sizeLine) (hr : Room k callerA)
    (G : ∀ base : Heap, K.In base → base.Ns mainGlobals mg → FnG P w K mg base CX0 k fa fd [x] sp) (bt : ∀ (s : Shared) (u : Value), BindsTo s fd ⟨[u], []⟩ [(x, u)])
    (hsp : ∀ H : Hp, SqL K H a (ns.map V.int) → sp [.ref a] H (fun v _ => v = .bl true) fun _ _ _ => False) :
    codeAny (model P w) callerA (.call (.ref fa) ⟨[.ref a], []⟩) (fun r s' => r = .ok (.ret (.bool true)) ∧ OldK s1.heap s'.heap ∧ s'.os = s1.os ∧ AllBare s'.gens) s1 := by
  have rv := vals_ints hin
  have cnt := hin.length
  -- H tracks at most the script, and that as a locked list
  have main : ∀ H : Hp, (∀ b u, H b = some u → b = a ∧ ∃ o xs, u = .frz o (.lst xs)) → SqL K H a (ns.map V.int) → HOk P w H s1.heap → (H a ≠ none → K.lookup a = none) →
      codeAny (model P w) callerA (.call (.ref fa) ⟨[.ref a], []⟩) (fun r s' => r = .ok (.ret (.bool true)) ∧ OldK s1.heap s'.heap ∧ s'.os = s1.os ∧ AllBare s'.gens) s1 := by
    intro H only hS hok hK
    have untr : ∀ {b : Addr} {o : Obj}, s1.heap.get? b = some o → (b = a → False) → H b = none := fun {b o} _ ne => by
      cases q : H b with
      | none => rfl
      | some u => exact (ne (only b u q).1).elim
    have hid : ∀ {b : Addr} {m : Str → Option Value}, s1.heap.Ns b m → (hidT s1.heap H).Ns b m := by
      rintro b m ⟨o, en, ep, g1, g2, g3⟩
      refine ⟨o, en, ep, hidT_get g1 (untr g1 fun z => ?_), g2, g3⟩
      subst z
      rw [hA] at g1
      cases g1
      cases g2
    have inB : K.In (hidT s1.heap H) := fun b o g => by
      refine hidT_get (inS b o g) ?_
      cases q : H b with
      | none => rfl
      | some u =>
        obtain ⟨z, _⟩ := only b u q
        subst z
        have y := hK (by rw [q]; exact fun z => by cases z)
        rw [y] at g
        cases g
    obtain ⟨mc, c1, c2⟩ := noLim
    have env0 : Env0 P w K mg (hidT s1.heap H) callerA [] s1 H :=
      { frames := rfl, mod := ⟨inB, hid hM, ⟨mb, hid hB, hv⟩, ⟨mc, hid c1, c2⟩⟩, bs := fun b o g => of_hidT g, bsz := Nat.le_of_eq (hidT_size _ _), funs := trivial, frf := fun b z => (List.not_mem_nil z).elim, hok := hok, bare := .of_eq noGen }
    refine codeAny_mono ((G _ inB (hid hM)).go callerA [] s1 H ⟨[.ref a], []⟩ [.ref a] [.ref a] _ _ rfl hr env0 (bt s1 (.ref a)) (.cons rfl .nil) (hsp H hS)) fun res s' h => ?_
    rcases res with e | fl
    · exact (h : False).elim
    · cases fl with
      | next => exact (h : False).elim
      | brk => exact (h : False).elim
      | cont => exact (h : False).elim
      | ret u =>
        obtain ⟨v, H', os, bare, un, hok', r', q⟩ := h
        have q : v = .bl true := q
        subst q
        have r' : u = Value.bool true := r'
        subst r'
        refine ⟨rfl, OldK.of_keep fun b o g => ?_, os, bare⟩
        cases q : H b with
        | none => exact un.keep b o g q (fun z => by cases z) (fun z => by cases z)
        | some u =>
          obtain ⟨_, ob, xs, z⟩ := only b u q
          subst z
          obtain ⟨e1, _⟩ := hok b _ q
          obtain ⟨e2, _⟩ := hok' b _ (un.frzs b ob _ q)
          rw [g] at e1
          cases e1
          exact e2
  cases hk : K.lookup a with
  | some o =>
    have g := inS a o hk
    rw [hA] at g
    cases g
    exact main (fun _ => none) (fun b u z => by cases z) (.inr ⟨_, its.toArray, _, hk, rfl, rfl, rfl, by rw [List.size_toArray, cnt]; exact small, by simpa using rv⟩) (fun b u z => by cases z) fun z => (z rfl).elim
  | none =>
    have at_a : (fun b => if b = a then some (HO.frz { cls := .type "list", data := .seq its.toArray } (.lst (ns.map V.int))) else none) a = some (HO.frz { cls := .type "list", data := .seq its.toArray } (.lst (ns.map V.int))) := if_pos rfl
    refine main (fun b => if b = a then some (.frz { cls := .type "list", data := .seq its.toArray } (.lst (ns.map V.int))) else none) (fun b u z => ?_) (.inl (.inr ⟨_, at_a⟩)) (fun b u z => ?_) fun _ => hk
    · by_cases hb : b = a
      · have z := (if_pos hb).symm.trans z
        cases z
        exact ⟨hb, _, _, rfl⟩
      · have z := (if_neg hb).symm.trans z
        cases z
    · by_cases hb : b = a
      · have z := (if_pos hb).symm.trans z
        cases z
        subst hb
        exact ⟨hA, by rw [List.length_map]; exact small, its, _, rv, hA⟩
      · have z := (if_neg hb).symm.trans z
        cases z
theorem walk_law {l : PySem.W.OpenLaw} {n k : Nat} {q : Program} {loose : List Str} {XP : (Str → Option Value) → Heap → Prop} {YP : World → Heap → Prop} {d : DefRec} {x : Str} (hn : l.most = some n) (small : n ≤ sizeLine) (hdf : d.params.defaults = []) (hr : Room k callerA)
    (G : ∀ (w : World) (mg : Str → Option Value) (fa : Addr) (h : Heap), YP w h → h.Ns mainGlobals mg → mg d.name = some (.ref fa) → ∃ (K : PySem.W.Frag) (fd : FuncData) (sp : Sp), K.In h ∧ (∀ (s : Shared) (u : Value), BindsTo s fd ⟨[u], []⟩ [(x, u)]) ∧
      (∀ (H : Hp) (a : Addr) (ns : List Int), ns.length ≤ n → SqL K H a (ns.map V.int) → sp [.ref a] H (fun v _ => v = .bl true) fun _ _ _ => False) ∧ ∀ base : Heap, K.In base → base.Ns mainGlobals mg → FnG l.prog w K mg base CX0 k fa fd [x] sp) :
    PySem.W.WalkO q loose XP YP l.row.toRowW d [] (fun f vs => PySem.call f vs) := by
  refine Att.attach_call hn hdf fun w s0 s1 mg mb fa o pm cd doc a its ns Gr Y ho hd hcd hmg hobj hints hlen hg => ?_
  obtain ⟨K, fd, sp, inS, bt, hsp, hF⟩ := G w mg fa _ Y Gr.T.g hmg
  exact law_goes inS Gr.T.g Gr.T.b Gr.T.builtins Gr.T.nolimit hg hobj hints (Nat.le_trans hlen small) hr hF bt fun H hS => hsp H a ns hlen hS
def wipeE (ρ : En) : List Nat → En
  | [] => ρ
  | v :: vs => (wipeE ρ vs).set v none
def restE (ρ0 : En) : List Nat → En → En
  | [], ρ => ρ
  | v :: vs, ρ => (restE ρ0 vs ρ).set v (ρ0.getD v none)
theorem wipeE_len {ρ : En} : ∀ {vs : List Nat}, (wipeE ρ vs).length = ρ.length
  | [] => rfl
  | v :: vs => by
    show ((wipeE ρ vs).set v none).length = _
    rw [List.length_set, wipeE_len]
theorem restE_len {ρ0 ρ : En} : ∀ {vs : List Nat}, (restE ρ0 vs ρ).length = ρ.length
  | [] => rfl
  | v :: vs => by
    show ((restE ρ0 vs ρ).set v _).length = _
    rw [List.length_set, restE_len]
theorem wipeE_get {ρ : En} {i : Nat} {d : D} : ∀ {vs : List Nat}, (wipeE ρ vs)[i]? = some (some d) → ρ[i]? = some (some d) ∧ i ∉ vs
  | [], h => ⟨h, by simp⟩
  | v :: vs, h => by
    rcases set_get (show ((wipeE ρ vs).set v none)[i]? = _ from h) with ⟨_, q⟩ | ⟨e, q⟩
    · cases q
    · obtain ⟨a, b⟩ := wipeE_get q
      exact ⟨a, fun z => by
        rcases List.mem_cons.mp z with z | z
        · exact e z.symm
        · exact b z⟩
theorem wipeE_out {ρ : En} {i : Nat} : ∀ {vs : List Nat}, i ∉ vs → (wipeE ρ vs)[i]? = ρ[i]?
  | [], _ => rfl
  | v :: vs, h => by
    show ((wipeE ρ vs).set v none)[i]? = _
    rw [List.getElem?_set_ne fun z => h (by rw [z]; exact List.mem_cons_self), wipeE_out fun z => h (List.mem_cons_of_mem _ z)]
theorem restE_get {ρ0 ρ : En} {i : Nat} {d : D} : ∀ {vs : List Nat}, (restE ρ0 vs ρ)[i]? = some (some d) → (i ∈ vs ∧ ρ0[i]? = some (some d)) ∨ (i ∉ vs ∧ ρ[i]? = some (some d))
  | [], h => .inr ⟨by simp, h⟩
  | v :: vs, h => by
    rcases set_get (show ((restE ρ0 vs ρ).set v (ρ0.getD v none))[i]? = _ from h) with ⟨e, q⟩ | ⟨e, q⟩
    · subst e
      refine .inl ⟨List.mem_cons_self, ?_⟩
      rw [List.getD_eq_getElem?_getD] at q
      cases z : ρ0[v]? with
      | none =>
        rw [z] at q
        cases q
      | some o =>
        rw [z] at q
        exact congrArg some q.symm
    · rcases restE_get q with ⟨a, b⟩ | ⟨a, b⟩
      · exact .inl ⟨List.mem_cons_of_mem _ a, b⟩
      · exact .inr ⟨fun z => by
          rcases List.mem_cons.mp z with z | z
          · exact e z.symm
          · exact a z, b⟩
theorem restE_out {ρ0 ρ : En} {i : Nat} : ∀ {vs : List Nat}, i ∉ vs → (restE ρ0 vs ρ)[i]? = ρ[i]?
  | [], _ => rfl
  | v :: vs, h => by
    show ((restE ρ0 vs ρ).set v _)[i]? = _
    rw [List.getElem?_set_ne fun z => h (by rw [z]; exact List.mem_cons_self), restE_out fun z => h (List.mem_cons_of_mem _ z)]
def fzAt (O : List Kd) : List Nat → Bool
  | [] => true
  | v :: vs => (decide (O[v]? = some .fz) && (decide (v < nl O) && (!hasO O || decide (v ≠ oi O)))) && fzAt O vs
theorem fzAt_all {O : List Kd} {v : Nat} : ∀ {vs : List Nat}, fzAt O vs = true → v ∈ vs → O[v]? = some .fz ∧ v < nl O ∧ (hasO O = true → v ≠ oi O)
  | [], _, h => by simp at h
  | a :: vs, h, m => by
    obtain ⟨h1, h2⟩ := Bool.and_eq_true_iff.mp (show (_ && fzAt O vs) = true from h)
    rcases List.mem_cons.mp m with e | e
    · rw [e]
      obtain ⟨h3, h4⟩ := Bool.and_eq_true_iff.mp h1
      obtain ⟨h5, h6⟩ := Bool.and_eq_true_iff.mp h4
      refine ⟨of_decide_eq_true h3, of_decide_eq_true h5, fun z => ?_⟩
      rw [z] at h6
      exact of_decide_eq_true (by simpa using h6)
    · exact fzAt_all h2 e
theorem fzAt_get {O : List Kd} {v : Nat} {vs : List Nat} (h : fzAt O vs = true) (m : v ∈ vs) : O[v]? = some .fz := (fzAt_all h m).1
section
variable {K : PySem.W.Frag} {O : List Kd} {F H : Hp} {σ : L2.St} {ρ : En} {vs : List Nat}
theorem wipe_get_out {i : Nat} : ∀ {vs : List Nat}, i ∉ vs → (wipe σ vs)[i]? = σ[i]?
  | [], _ => rfl
  | v :: vs, h => by
    show ((wipe σ vs).set v none)[i]? = _
    rw [List.getElem?_set_ne fun z => h (by rw [z]; exact List.mem_cons_self), wipe_get_out fun z => h (List.mem_cons_of_mem _ z)]
theorem wipe_get_in {i : Nat} (hi : i < σ.length) : ∀ {vs : List Nat}, i ∈ vs → (wipe σ vs)[i]? = some none
  | [], h => by simp at h
  | v :: vs, h => by
    show ((wipe σ vs).set v none)[i]? = _
    by_cases e : v = i
    · subst e
      rw [List.getElem?_set_self (by rw [wipe_length]; exact hi)]
    · rw [List.getElem?_set_ne e]
      rcases List.mem_cons.mp h with z | z
      · exact (e z.symm).elim
      · exact wipe_get_in hi z
theorem wipe_eq {σ' : L2.St} (hl : σ'.length = σ.length) (h : ∀ j, j ∉ vs → σ'[j]? = σ[j]?) : wipe σ' vs = wipe σ vs := by
  refine List.ext_getElem? fun i => ?_
  by_cases m : i ∈ vs
  · by_cases hi : i < σ.length
    · rw [wipe_get_in hi m, wipe_get_in (by omega) m]
    · rw [List.getElem?_eq_none (by rw [wipe_length]; omega), List.getElem?_eq_none (by rw [wipe_length]; omega)]
  · rw [wipe_get_out m, wipe_get_out m, h i m]
theorem wipe_idem : wipe (wipe σ vs) vs = wipe σ vs := wipe_eq (wipe_length σ vs) fun j hj => wipe_get_out hj
theorem ob_wipe (hv : fzAt O vs = true) (e : hasO O = true) : ob O (wipe σ vs) = ob O σ := by
  unfold ob
  rw [wipe_get_out fun m => (fzAt_all hv m).2.2 e rfl]
theorem sv_wipe (hv : fzAt O vs = true) {H : Hp} {i : Nat} (hi : i ∉ vs) : sv O H (wipe σ vs) i = sv O H σ i := by
  by_cases hj : i < nl O
  · rw [sv_loc hj, sv_loc hj, wipe_get_out hi]
  · refine sv_ob ?_ hj
    cases e : hasO O with
    | false => exact .inl rfl
    | true => exact .inr (ob_wipe hv e)
theorem own_wipe (hv : fzAt O vs = true) {F' : Hp} {i : Nat} {p : Addr} : OwnAt O ⟨F', H, wipe σ vs, wipeE ρ vs⟩ i p ↔ OwnAt O ⟨F, H, σ, ρ⟩ i p := by
  have ni : ∀ {k : Kd}, O[i]? = some k → k.own = true → i ∉ vs := fun {k} h1 h2 m => by
    rw [fzAt_get hv m] at h1
    cases h1
    cases h2
  constructor
  · rintro ⟨k, d, h1, h2, h3, h4⟩
    have z := ni h1 h2
    have h3 : (wipeE ρ vs)[i]? = _ := h3
    rw [wipeE_out z] at h3
    exact ⟨k, d, h1, h2, h3, (sv_wipe hv z).symm.trans h4⟩
  · rintro ⟨k, d, h1, h2, h3, h4⟩
    have z := ni h1 h2
    exact ⟨k, d, h1, h2, by show (wipeE ρ vs)[i]? = _; rw [wipeE_out z]; exact h3, (sv_wipe hv z).trans h4⟩
theorem Ok.wipe (hv : fzAt O vs = true) (ok : Ok K O ⟨F, H, σ, ρ⟩) : Ok K O ⟨F, H, wipe σ vs, wipeE ρ vs⟩ := by
  refine ⟨ok.sub, (wipe_length σ vs).trans ok.ls, wipeE_len.trans ok.lr, fun i d h1 h2 => ?_, fun i k d h1 h2 h3 => ?_, fun i j p h1 h2 => ok.ap i j p ((own_wipe hv).mp h1) ((own_wipe hv).mp h2), fun e => ?_, ok.tb⟩
  · obtain ⟨g1, g2⟩ := wipeE_get h2
    obtain ⟨v, g3, g4⟩ := ok.fz i d h1 g1
    exact ⟨v, (sv_wipe hv g2).trans g3, g4⟩
  · obtain ⟨g1, g2⟩ := wipeE_get h3
    obtain ⟨p, g3, g4⟩ := ok.ow i k d h1 h2 g1
    exact ⟨p, (sv_wipe hv g2).trans g3, g4⟩
  · obtain ⟨a0, a1, ⟨C, dx, fs, a2, a3⟩, a4, a5, a6⟩ := ok.obj e
    have eo : ob O (L2.wipe σ vs) = ob O σ := ob_wipe hv e
    refine ⟨?_, a1, ⟨C, dx, fs, by rw [eo]; exact a2, by rw [eo]; exact a3⟩, by rw [eo]; exact a4, by rw [eo]; exact fun ⟨i, h⟩ => a5 ⟨i, (own_wipe hv).mp h⟩, by rw [eo]; exact a6⟩
    rw [eo]
    show (L2.wipe σ vs)[oi O]? = _
    rw [wipe_get_out fun m => (fzAt_all hv m).2.2 e rfl]
    exact a0
theorem StpS.wipe (hv : fzAt O vs = true) {w : Wd} (st : StpS O w ⟨F, H, σ, ρ⟩) : StpS O w ⟨F, H, wipe σ vs, wipeE ρ vs⟩ := by
  have ni : ∀ {i : Nat} {k : Kd}, O[i]? = some k → k.pin = true → i ∉ vs := fun {i k} h1 h2 m => by
    rw [fzAt_get hv m] at h1
    cases h1
    cases h2
  refine ⟨st.ex, st.kp, st.nw, fun b ⟨i, h⟩ => st.fp b ⟨i, (own_wipe hv).mp h⟩, fun i k h1 h2 => ?_, fun i k h1 h2 => ?_, st.lo, fun e => ?_, st.tb⟩
  · exact (sv_wipe hv (ni h1 h2)).trans (st.pn i k h1 h2)
  · show (wipeE ρ vs)[i]? = _
    rw [wipeE_out (ni h1 (Kd.pin_of h2))]
    exact st.lk i k h1 h2
  · exact ⟨(ob_wipe hv e).trans (st.o0 e).1, (st.o0 e).2⟩
theorem Stp.wipe (hv : fzAt O vs = true) {w : Wd} (st : Stp O w ⟨F, H, σ, ρ⟩) : Stp O w ⟨F, H, wipe σ vs, wipeE ρ vs⟩ := ⟨st.toStpS.wipe hv, st.ost⟩
end
structure Acc (K : PySem.W.Frag) (L : List Kd) (w1 : Wd) (Dl : Addr) (w : Wd) (acc : List D) : Prop where
  ok : Ok K L w
  st : Stp L w1 w
  at_ : ∃ xs, w.H Dl = some (.lst xs) ∧ RpA K w.F acc xs
  nf : w.F Dl = none
  np : ¬ Fp L w Dl
  fr : w1.H Dl = none
  no : hasO L = true → Dl ≠ ob L w.σ
section
variable {K : PySem.W.Frag} {L : List Kd} {w1 w w' : Wd} {Dl : Addr} {acc : List D}
theorem Acc.step (a : Acc K L w1 Dl w acc) (ok : Ok K L w') (st : Stp L w w') : Acc K L w1 Dl w' acc := by
  obtain ⟨xs, h1, h2⟩ := a.at_
  exact ⟨ok, a.st.trans st, ⟨xs, st.kp' h1 a.np, h2.mono st.ex⟩, st.nw _ _ h1 a.np a.nf, st.nofp h1 a.np, a.fr, fun e => by rw [(st.o0 e).1]; exact a.no e⟩
theorem Acc.wipe {vs : List Nat} (hv : fzAt L vs = true) (a : Acc K L w1 Dl w acc) : Acc K L w1 Dl ⟨w.F, w.H, wipe w.σ vs, wipeE w.ρ vs⟩ acc :=
  ⟨a.ok.wipe hv, a.st.wipe hv, a.at_, a.nf, fun ⟨i, h⟩ => a.np ⟨i, (own_wipe hv).mp h⟩, a.fr, fun e => by show Dl ≠ ob L (L2.wipe w.σ vs); rw [ob_wipe hv e]; exact a.no e⟩
theorem Acc.push {d : D} {v : V} {xs : List V} (a : Acc K L w1 Dl w acc) (hx : w.H Dl = some (.lst xs)) (r : Rp K w.F d v) : Acc K L w1 Dl ⟨w.F, upd w.H Dl (.lst (xs ++ [v])), w.σ, w.ρ⟩ (acc ++ [d]) := by
  obtain ⟨ys, h1, h2⟩ := a.at_
  rw [hx] at h1
  cases h1
  have hne : ∀ {b : Addr}, Fp L w b → b ≠ Dl := fun {b} h z => a.np (by rw [← z]; exact h)
  have hO : hasO L = true → upd w.H Dl (.lst (xs ++ [v])) (ob L w.σ) = w.H (ob L w.σ) := fun e => upd_ne fun z => a.no e z.symm
  have hsv : ∀ j, sv L (upd w.H Dl (.lst (xs ++ [v]))) w.σ j = w.sv L j := fun j => sv_same hO
  have hfp : ∀ {b : Addr}, Fp L ⟨w.F, upd w.H Dl (.lst (xs ++ [v])), w.σ, w.ρ⟩ b ↔ Fp L w b := fp_same hO
  have hat : ∀ {i : Nat} {b : Addr}, OwnAt L ⟨w.F, upd w.H Dl (.lst (xs ++ [v])), w.σ, w.ρ⟩ i b ↔ OwnAt L w i b := own_same hO
  refine ⟨⟨fun b u hb => ?_, a.ok.ls, a.ok.lr, fun i d' e1 e2 => ?_, fun i k d' e1 e2 e3 => ?_, fun i j p e1 e2 => a.ok.ap i j p (hat.mp e1) (hat.mp e2), fun e => ?_, fun P hP => ok_put hx nt_lst (a.ok.tb P hP)⟩, ⟨⟨a.st.ex, fun b o hb z _ => ?_, fun b o hb z f => a.st.nw b o hb z f, fun b h => a.st.fp b (hfp.mp h), fun i k e1 e2 => (hsv i).trans (a.st.pn i k e1 e2), a.st.lk, fun i k p d' e1 e2 e3 e4 => ?_, fun e => ⟨(a.st.o0 e).1, fun z => ?_⟩, fun P h => tab_put hx nt_lst (a.st.tb P h)⟩, fun e => ?_⟩, ⟨xs ++ [v], upd_same, h2.append (.cons r .nil)⟩, a.nf, fun h => a.np (hfp.mp h), a.fr, a.no⟩
  · show upd w.H Dl _ b = _
    rw [upd_ne (ne_of_none hb a.nf)]
    exact a.ok.sub b u hb
  · obtain ⟨u, g1, g2⟩ := a.ok.fz i d' e1 e2
    exact ⟨u, (hsv i).trans g1, g2⟩
  · obtain ⟨p, g1, g2, o, g3, g4⟩ := a.ok.ow i k d' e1 e2 e3
    exact ⟨p, (hsv i).trans g1, g2, o, by show upd w.H Dl _ p = _; rw [upd_ne (hne ⟨i, k, d', e1, e2, e3, g1⟩)]; exact g3, g4⟩
  · obtain ⟨a0, a1, ⟨C, dx, fs, a2, a3⟩, a4, a5, a6⟩ := a.ok.obj e
    have hd : dx ≠ Dl := fun z => by
      rw [z, hx] at a3
      cases a3
    exact ⟨a0, a1, ⟨C, dx, fs, (hO e).trans a2, by show upd w.H Dl _ dx = _; rw [upd_ne hd]; exact a3⟩, a4, fun h => a5 (hfp.mp h), fun C dx fs z => a6 C dx fs ((hO e).symm.trans z)⟩
  · show KH o (upd w.H Dl _ b)
    rw [upd_ne (ne_of_none hb a.fr)]
    exact a.st.kp' hb z
  · have g := a.st.lo i k p d' e1 e2 e3 e4
    show upd w.H Dl _ p = _
    rw [upd_ne (hne ⟨i, k, d', e1, Kd.own_of e2, (a.st.lk i k e1 e2).trans e3, (a.st.pn i k e1 (Kd.pin_of e2)).trans e4⟩)]
    exact g
  · have y := (a.st.o0 e).2 z
    have y2 := hO e
    rw [(a.st.o0 e).1] at y2
    exact fun q => y (y2.symm.trans q)
  · have y2 := hO e
    rw [(a.st.o0 e).1] at y2
    exact y2.trans (a.st.ost e)
theorem Acc.new (ok : Ok K L w) (st : Stp L w1 w) (h : w.H Dl = none) (h1 : w1.H Dl = none) : Acc K L w1 Dl ⟨w.F, upd w.H Dl (.lst []), w.σ, w.ρ⟩ [] := by
  have pu := Pur.owned (F := w.F) ok.sub h (.lst [])
  obtain ⟨a, b⟩ := ok.pur pu
  have no : hasO L = true → Dl ≠ ob L w.σ := fun e z => by
    obtain ⟨C, dx, fs, y, _⟩ := (ok.obj e).ex
    rw [z, y] at h
    cases h
  exact ⟨a, st.trans b, ⟨[], upd_same, rfl⟩, ok.sub.free h, fun z => (by
    obtain ⟨_, o, q⟩ := ok.ownF (p := Dl) ((fp_same (F := w.F) (H := w.H) b.ost).mp z)
    rw [h] at q
    cases q), h1, no⟩
end
theorem in_it {J : It} {n : Nat} {G : Hp → Prop} {Y : Nat → Hp → V → Hp → Prop} (w : Walk J n G Y) {Nx : Hp → Prop} {Body : (Hp → Prop) → V → Hp → Prop} {H : Hp} (Pv : Nat → Hp → Prop) (h0 : Pv 0 H) (hG : ∀ i H, i ≤ n → Pv i H → G H)
    (hs : ∀ i x H H', i < n → Pv i H → Y i H x H' → Body (Pv (i + 1)) x H') (hd : ∀ H, Pv n H → Nx H) :
    ∃ W : Nat → Nat → Hp → Prop, (∃ m, W 0 m H) ∧ ∀ i m H, W i m H → (J.stop i H ∧ Nx H) ∨ (J.go i H ∧ ∃ N : Hp → Prop, (∀ H', N H' → ∃ m', m' < m ∧ W (i + 1) m' H') ∧ ∀ x H', J.yld i H x H' → Body N x H') := by
  refine ⟨fun i m H => m = n - i ∧ i ≤ n ∧ Pv i H, ⟨n, rfl, Nat.zero_le _, h0⟩, ?_⟩
  rintro i m H ⟨rfl, hi, p⟩
  have g := hG i H hi p
  by_cases lt : i < n
  · exact .inr ⟨w.goes i H lt g, Pv (i + 1), fun H' p' => ⟨n - (i + 1), by omega, rfl, lt, p'⟩, fun x H' y => hs i x H H' lt p (w.yields i H x H' lt g y)⟩
  · have e : i = n := by omega
    subst e
    exact .inl ⟨w.stops H g, hd H p⟩
def mYes : MT := fun ρ => some (true, ρ)
def mLcL : List D → MG → MT → M → List Nat → List D → En → Option (List D × En)
  | [], _, _, _, _, acc, ρ => some (acc, ρ)
  | d :: ds, g, t, e, vs, acc, ρ => (g d (wipeE ρ vs)).bind fun ρ1 => (t ρ1).bind fun p => if p.1 = true then (e p.2).bind fun q => if acc.length < 1000000 then mLcL ds g t e vs (acc ++ [q.1]) q.2 else none
      else mLcL ds g t e vs acc p.2
def mLc (mi : MI) (g : MG) (t : MT) (e : M) (vs : List Nat) : M := fun ρ => (mi ρ).bind fun p => (mLcL p.1 g t e vs [] p.2).map fun q => (.list q.1, restE p.2 vs q.2)
def subL (is vs : List Nat) : Bool := is.all fun i => decide (i ∈ vs)
section
variable {K : PySem.W.Frag} {O L : List Kd} {g g1 : MG} {t t1 : MT} {e : M} {vs vs1 is is1 : List Nat} {σ : L2.St} {H : Hp} {Q : VK} {mi mi1 : MI}
theorem turn_elt {w1 w : Wd} {Dl : Addr} {acc acc' : List D} {ρ' : En} {ds : List D} {Nx : Hp → Prop} (a : Acc K L w1 Dl w acc)
    (hm : ((t w.ρ).bind fun p => if p.1 = true then (e p.2).bind fun q => if acc.length < 1000000 then mLcL ds g t e vs (acc ++ [q.1]) q.2 else none else mLcL ds g t e vs acc p.2) = some (acc', ρ'))
    (I : Wd → Prop) (i0 : I w) (hI : ∀ u u', I u → Stp L u u' → I u') (hP : ∀ u xs, I u → ¬ Fp L u Dl → (hasO L = true → Dl ≠ ob L u.σ) → I ⟨u.F, upd u.H Dl (.lst xs), u.σ, u.ρ⟩)
    (k : ∀ w2 acc2, Acc K L w1 Dl w2 acc2 → I w2 → w2.σ = w.σ → mLcL ds g t e vs acc2 w2.ρ = some (acc', ρ') → Nx w2.H) :
    tT K L t w.σ w.H fun b H3 => if b = true then tE K L e .fz w.σ H3 fun y H4 => ∃ xs, H4 Dl = some (.lst xs) ∧ xs.length < sizeLine ∧ Nx (upd H4 Dl (.lst (xs ++ [y]))) else Nx H3 := by
  obtain ⟨⟨b, ρ2⟩, e1, e2⟩ := bind_some hm
  refine ⟨w.F, w.ρ, b, ρ2, a.ok, e1, fun F3 H3 ok3 st3 => ?_⟩
  have a3 := a.step ok3 st3
  have i3 := hI _ _ i0 st3
  cases b with
  | false =>
    dsimp only at e2 ⊢
    rw [if_neg Bool.false_ne_true] at e2 ⊢
    exact k _ _ a3 i3 rfl e2
  | true =>
    dsimp only at e2 ⊢
    rw [if_pos rfl] at e2 ⊢
    obtain ⟨⟨d, ρ3⟩, e3, e4⟩ := bind_some e2
    dsimp only at e4
    split at e4
    · rename_i hlt
      refine ⟨F3, ρ2, d, ρ3, ok3, e3, fun v F4 H4 ok4 st4 r4 => ?_⟩
      have a4 := a3.step ok4 st4
      obtain ⟨xs, x1, x2⟩ := a4.at_
      refine ⟨xs, x1, ?_, k _ _ (a4.push x1 r4) (hP _ _ (hI _ _ i3 st4) a4.np a4.no) rfl e4⟩
      rw [x2.length]
      exact Nat.lt_of_lt_of_le hlt (by decide)
    · cases e4
theorem lc_fin {F F1 H1 F2 H2 : Hp} {ρ ρ1 ρe : En} {Dl : Addr} {acc : List D} (hv : fzAt L vs = true) (hl : lkOf O L = true) (ok1 : Ok K O ⟨F1, H1, σ, ρ1⟩) (st1 : Stp O ⟨F, H, σ, ρ⟩ ⟨F1, H1, σ, ρ1⟩) (hD : H1 Dl = none)
    (a2 : Acc K L ⟨F1, H1, σ, ρ1⟩ Dl ⟨F2, H2, wipe σ vs, wipeE ρe vs⟩ acc) (l2 : ρe.length = O.length)
    (q : ∀ v F' H', Ok K O ⟨F', H', σ, restE ρ1 vs ρe⟩ → Stp O ⟨F, H, σ, ρ⟩ ⟨F', H', σ, restE ρ1 vs ρe⟩ → Rs K O ⟨F, H, σ, ρ⟩ ⟨F', H', σ, restE ρ1 vs ρe⟩ .ow (.list acc) v → Q v H') : Q (.ref Dl) H2 := by
  obtain ⟨xs, x1, x2⟩ := a2.at_
  have l1 : ρ1.length = O.length := ok1.lr
  have ow_of : ∀ {i : Nat} {p : Addr}, OwnAt O ⟨F2, H2, σ, restE ρ1 vs ρe⟩ i p → OwnAt L ⟨F2, H2, wipe σ vs, wipeE ρe vs⟩ i p := fun {i p} ⟨k, d', h1, h2, h3, h4⟩ => by
    have o : OwnAt L ⟨F2, H2, σ, restE ρ1 vs ρe⟩ i p := (lk_at hl).mpr ⟨k, d', h1, h2, h3, h4⟩
    obtain ⟨k, d', h1, h2, h3, h4⟩ := o
    have ni : i ∉ vs := fun m => by
      rw [fzAt_get hv m] at h1
      cases h1
      cases h2
    refine (own_wipe (F := F2) (H := H2) hv).mpr ⟨k, d', h1, h2, ?_, h4⟩
    have h3 : (restE ρ1 vs ρe)[i]? = _ := h3
    rw [restE_out ni] at h3
    exact h3
  have st2 := a2.st.unlock hl
  have svO : ∀ i, sv O H2 σ i = sv O H1 σ i := fun i => sv_same st2.ost
  have hob : hasO O = true → ob L (wipe σ vs) = ob O σ := fun e => (ob_wipe hv ((lk_has hl).trans e)).trans (lk_ob hl σ)
  refine q (.ref Dl) F2 H2 ⟨a2.ok.sub, ok1.ls, by show (restE ρ1 vs ρe).length = _; rw [restE_len]; exact l2, fun i d' h1 h2 => ?_, fun i k d' h1 h2 h3 => ?_, fun i j p h1 h2 => a2.ok.ap i j p (ow_of h1) (ow_of h2), fun e => ?_, a2.ok.tb⟩
    (st1.trans ⟨⟨a2.st.ex, st2.kp, st2.nw, fun b ⟨i, h⟩ => ?_, fun i _ _ _ => svO i, fun i k h1 h2 => ?_, st2.lo, fun e => ⟨rfl, (st2.o0 e).2⟩, st2.tb⟩, st2.ost⟩) ⟨Dl, rfl, a2.nf, ⟨_, x1, xs, rfl, x2⟩, fun ⟨i, h⟩ => a2.np ⟨i, ow_of h⟩, st1.back hD, fun e => by show Dl ≠ ob O σ; rw [← hob e]; exact a2.no ((lk_has hl).trans e)⟩
  · rcases restE_get h2 with ⟨m, z⟩ | ⟨m, z⟩
    · obtain ⟨v, g1, g2⟩ := ok1.fz i d' h1 z
      exact ⟨v, (svO i).trans g1, g2.mono a2.st.ex⟩
    · obtain ⟨a', u1, u2⟩ := (lk_get hl).1 _ h1
      have u3 : L[i]? = some Kd.fz := by
        rcases u2 with u2 | ⟨u2, _⟩ | ⟨u2, _⟩
        · rw [u2]
          exact u1
        · cases u2
        · cases u2
      obtain ⟨v, g1, g2⟩ := a2.ok.fz i d' u3 (show (wipeE ρe vs)[i]? = _ by rw [wipeE_out m]; exact z)
      exact ⟨v, (lk_sv hl).symm.trans ((sv_wipe hv m).symm.trans g1), g2⟩
  · obtain ⟨a', u1, u2⟩ := (lk_get hl).1 _ h1
    have ni : i ∉ vs := fun m => by
      have z := fzAt_get hv m
      rw [u1] at z
      cases z
      rw [u2.own] at h2
      cases h2
    have h3 : (restE ρ1 vs ρe)[i]? = _ := h3
    rw [restE_out ni] at h3
    obtain ⟨p, g1, g2⟩ := a2.ok.ow i a' d' u1 (u2.own.symm.trans h2) (show (wipeE ρe vs)[i]? = _ by rw [wipeE_out ni]; exact h3)
    exact ⟨p, (lk_sv hl).symm.trans ((sv_wipe hv ni).symm.trans g1), g2⟩
  · obtain ⟨b0, b1, ⟨C, dx, fs, b2, b3⟩, b4, b5, b6⟩ := a2.ok.obj ((lk_has hl).trans e)
    have eo := hob e
    have eo : ob L (L2.wipe σ vs) = ob O σ := eo
    rw [eo] at b2 b3 b4 b5 b6
    rw [lk_cn hl, lk_ats hl] at b6
    exact ⟨(ok1.obj e).at0, (ok1.obj e).n0, ⟨C, dx, fs, b2, b3⟩, b4, fun ⟨i, h⟩ => b5 ⟨i, ow_of h⟩, b6⟩
  · exact st2.fp b ((lk_fp hl).mp ⟨i, ow_of h⟩)
  · obtain ⟨a', u1, u2⟩ := (lk_get hl).1 _ h1
    have ni : i ∉ vs := fun m => by
      have z := fzAt_get hv m
      rw [u1] at z
      cases z
      have := u2.lock h2
      cases this
    have z := st2.lk i k h1 h2
    show (restE ρ1 vs ρe)[i]? = _
    rw [restE_out ni]
    have z : (wipeE ρe vs)[i]? = ρ1[i]? := z
    rw [wipeE_out ni] at z
    exact z
theorem tLc_of (hv : fzAt L vs = true) (hl : lkOf O L = true) (his : subL is vs = true) (h : tE K O (mLc mi g t e vs) .ow σ H Q) : tLc (tI K O L mi) (tG K L g is) (tT K L t) (tE K L e .fz) vs σ H Q := by
  obtain ⟨F, ρ, d, ρ', ok, hm, q⟩ := h
  obtain ⟨⟨ds, ρ1⟩, e1, e2⟩ := bind_some hm
  obtain ⟨⟨acc, ρe⟩, e3, e4⟩ := map_some e2
  cases e4
  refine ⟨F, ρ, ds, ρ1, ok, e1, fun J F1 H1 G ok1 st1 wk hG Dl hD => ?_⟩
  have sub : ∀ i, i ∈ is → i ∈ vs := fun i hi => of_decide_eq_true (List.all_eq_true.mp his i hi)
  have okL := ok1.lock hl
  have a0 : Acc K L ⟨F1, H1, σ, ρ1⟩ Dl ⟨F1, upd H1 Dl (.lst []), wipe σ vs, wipeE ρ1 vs⟩ [] := (Acc.new okL (.refl _ _) hD hD).wipe hv
  refine in_it wk (fun i H2 => ∃ F2 ρ2 a, Acc K L ⟨F1, H1, σ, ρ1⟩ Dl ⟨F2, H2, wipe σ vs, wipeE ρ2 vs⟩ a ∧ ρ2.length = O.length ∧ mLcL (ds.drop i) g t e vs a ρ2 = some (acc, ρe))
    ⟨F1, ρ1, [], a0, ok1.lr, e3⟩ (fun i H2 _ ⟨F2, ρ2, a, a2, _, _⟩ => hG Zno zno _ a2.ok (a2.st.q _)) (fun i x H2 H3 hi ⟨F2, ρ2, a, a2, l2, m2⟩ y => ?_) fun H2 ⟨F2, ρ2, a, a2, l2, m2⟩ => ?_
  · obtain ⟨F3, pu, d, hd, rp⟩ := y F2 a2.st.ex a2.ok.sub
    rw [drop_get hd] at m2
    obtain ⟨ρ3, g1, g2⟩ := bind_some m2
    obtain ⟨ok3, st3⟩ := a2.ok.pur pu
    have a3 := a2.step ok3 st3
    refine ⟨F3, wipeE ρ2 vs, d, ρ3, ok3, rp, g1, fun σ4 ok4 st4 cov => ?_⟩
    have a4 := a3.step ok4 st4
    have hw : wipe σ4 vs = wipe σ vs := by
      have l4 : σ4.length = (wipe σ vs).length := ok4.ls.trans ok3.ls.symm
      rw [wipe_eq l4 fun j hj => cov j fun z => hj (sub j z), wipe_idem]
    refine ⟨hw, turn_elt a4 g2 (fun _ => True) trivial (fun _ _ _ _ => trivial) (fun _ _ _ _ _ => trivial) fun w2 acc2 a5 _ hs m5 => ⟨w2.F, w2.ρ, acc2, ?_, (a5.ok.lr).trans (lk_len hl).symm, m5⟩⟩
    have a6 := a5.wipe hv
    rw [hs, hw] at a6
    exact a6
  · rw [List.drop_length] at m2
    cases m2
    exact lc_fin hv hl ok1 st1 hD a2 l2 q
end
section
variable {X : Cx} {O L : List Kd} {elt tg iter tg1 iter1 : Expr} {ifs ifs1 : List Expr} {scope : Scope} {own : List (Str × Nat)} {pos spos : Pos} {mi mi1 : MI} {g g1 : MG} {is is1 vs1 : List Nat} {t t1 : MT} {e : M} {r : Ak}
theorem PTsi {X : Cx} {t t' : TT} (h : PTs X ifs t) (k : ∀ σ H Q, t' σ H Q → t σ H Q) : PTs X ifs t' := ⟨fun pins s σ H Q I q => h.run pins s σ H Q I (k σ H Q q)⟩
theorem ts_nil {X : Cx} {K : PySem.W.Frag} : PTs X [] (tT K L mYes) := PTsi pts_nil fun σ H Q ⟨F, ρ, b, ρ', ok, hm, q⟩ => by
  cases hm
  exact q F H ok (.refl _ _)
theorem ts_one {X : Cx} {c : Expr} {K : PySem.W.Frag} (h : PT X c (tT K L t)) : PTs X [c] (tT K L t) := pts_one h
theorem e_lc (hc : X.calm = true) (hN : X.N.Nodup) (hi : PI X tg iter (tI X.K O L mi)) (ok : BlkOk X.N X.env.scope scope own)
    (hg : ∀ (s : Shared) (H : Hp) (C : Addr) (cl : List (Str × Addr)) (fp : List Addr), PG (X.blk s H scope (compEnvC scope cl C X.env) fp) tg (tG X.K L g is)) (ht : ∀ (s : Shared) (H : Hp) (C : Addr) (cl : List (Str × Addr)) (fp : List Addr), PTs (X.blk s H scope (compEnvC scope cl C X.env) fp) ifs (tT X.K L t))
    (he : ∀ (s : Shared) (H : Hp) (C : Addr) (cl : List (Str × Addr)) (fp : List Addr), PE (X.blk s H scope (compEnvC scope cl C X.env) fp) elt (tE X.K L e .fz)) (hv : fzAt L (own.map (·.2)) = true := by rfl) (hl : lkOf O L = true := by rfl) (his : subL is (own.map (·.2)) = true := by rfl) (hs : ∀ x, foldedSetIterable iter X.env x = pure x := by intro _; rfl) :
    PE X (.ListComp elt [⟨tg, iter, ifs, 0⟩] scope pos) (tE X.K O (mLc mi g t e (own.map (·.2))) .ow) := PEi (pe_lc hc hN hi ok hg ht he hs) fun _ _ _ h => tLc_of hv hl his h
theorem asg_imp {te te' : TE} {i : Nat} {D : Ends} {σ : L2.St} {H : Hp} (k : ∀ σ H Q, te' σ H Q → te σ H Q) (h : tAsg te' (gName i) D σ H) : tAsg te (gName i) D σ H := k _ _ _ h
theorem frzE {K : PySem.W.Frag} {m : M} {σ : L2.St} {H : Hp} {Q : VK} (h : tE K O m .fz σ H Q) : tE K O m .ow σ H Q := by
  obtain ⟨F, ρ, d, ρ', ok, hm, k⟩ := h
  refine ⟨F, ρ, d, ρ', ok, hm, fun v F' H' ok' st r => ?_⟩
  obtain ⟨F2, a, b, c⟩ := frz_out ok' st r
  exact k v F2 H' a b c
theorem s_lcF (i : Nat) {y : Str} {py : Pos} (hc : X.calm = true) (hN : X.N.Nodup) (hi : PI X tg iter (tI X.K O L mi)) (ok : BlkOk X.N X.env.scope scope own)
    (hg : ∀ (s : Shared) (H : Hp) (C : Addr) (cl : List (Str × Addr)) (fp : List Addr), PG (X.blk s H scope (compEnvC scope cl C X.env) fp) tg (tG X.K L g is)) (ht : ∀ (s : Shared) (H : Hp) (C : Addr) (cl : List (Str × Addr)) (fp : List Addr), PTs (X.blk s H scope (compEnvC scope cl C X.env) fp) ifs (tT X.K L t))
    (he : ∀ (s : Shared) (H : Hp) (C : Addr) (cl : List (Str × Addr)) (fp : List Addr), PE (X.blk s H scope (compEnvC scope cl C X.env) fp) elt (tE X.K L e .fz)) (hsw : swapsWith (.ListComp elt [⟨tg, iter, ifs, 0⟩] scope pos) (some (.Name y py)) spos.line X.env = pure true)
    (hO : O[i]? = some Kd.fz := by rfl) (hlc : i < nl O := by decide) (h0 : hasO O = false ∨ i ≠ oi O := by decide) (hy : X.N[i]? = some y := by rfl) (hyl : X.env.scope.names.lookup y = some .local := by rfl) (hv : fzAt L (own.map (·.2)) = true := by rfl) (hl : lkOf O L = true := by rfl) (his : subL is (own.map (·.2)) = true := by rfl) (hs : ∀ x, foldedSetIterable iter X.env x = pure x := by intro _; rfl) :
    PS X (.Assign [.Name y py] (.ListComp elt [⟨tg, iter, ifs, 0⟩] scope pos) spos) (tS X.K O (mSet i (mLc mi g t e (own.map (·.2)))) r) :=
  PSi (ps_setLc hc hN hy hyl hsw hi ok hg ht he hs) fun _ _ _ h => asg_imp (fun _ _ _ z => tLc_of hv hl his (frzE z)) (asgFz hO hlc h0 h)
end
section
variable {X : Cx} {O L : List Kd} {e a b : Expr} {es : List Expr} {ma : MA} {m mb : M} {ks : List Ak} {ka kb k : Ak} {op : List D → Option D} {x : Str} {p pos : Pos} {r : List V → Hp → VK → Prop} {id T : String}
theorem e_blt (hc : CallR X (.builtin id) r) (hs : LSem X.K r op k) (hm : X.mg x = none) (hv : bootBuiltins x = some (.builtin id)) (ha : PA X (e :: es) (tA X.K O ma ks)) (hg : Gl X x := by rfl) (hn : x ≠ "__name__" := by decide) (hdb : (x == ("__debug__" : Str)) = false := by decide)
    (he : starEach (e :: es) X.env = (false, eval e X.env) :: starEach es X.env := by rfl) (hpl : (backTo pos (starEach es X.env)).any (·.1) = false := by rfl) : PE X (.Call (.Name x p) (e :: es) [] pos) (tE X.K O (mOp ks ma op) k) :=
  PEi (pe_callB hc hg hm hv ha hn hdb he hpl) fun _ _ _ h => tA_op hs h
theorem e_bty (hc : CallR X (.type T) r) (hs : LSem X.K r op k) (hm : X.mg x = none) (hv : bootBuiltins x = some (.type T)) (ha : PA X (e :: es) (tA X.K O ma ks)) (hg : Gl X x := by rfl) (hn : x ≠ "__name__" := by decide) (hdb : (x == ("__debug__" : Str)) = false := by decide)
    (he : starEach (e :: es) X.env = (false, eval e X.env) :: starEach es X.env := by rfl) (hpl : (backTo pos (starEach es X.env)).any (·.1) = false := by rfl) : PE X (.Call (.Name x p) (e :: es) [] pos) (tE X.K O (mOp ks ma op) k) :=
  PEi (pe_callTy hc hg hm hv ha hn hdb he hpl) fun _ _ _ h => tA_op hs h
end
section
variable {K : PySem.W.Frag}
def dLen : List D → Option D
  | [.list ds] => some (.int ds.length)
  | [.tuple ds] => some (.int ds.length)
  | [.str z] => if z.length ≤ 100000 then some (.int z.length) else none
  | _ => none
theorem s_len : LSem K (fun xs H Q => ∃ x n, xs = [x] ∧ LenV K x H n ∧ Q (.int n) H) dLen .fz := by
  intro F H ds vs d Q s hv ho q
  unfold dLen at ho
  split at ho
  · rename_i es
    cases ho
    obtain ⟨v, rfl, a, xs, rfl, h1, h2⟩ := hv.one
    exact ⟨_, es.length, rfl, .inl ⟨xs, h1, by rw [h2.length]⟩, q.now s rfl⟩
  · rename_i es
    cases ho
    obtain ⟨v, rfl, a, xs, rfl, h1, h2⟩ := hv.one
    exact ⟨_, es.length, rfl, .inr ⟨xs, same_sqt s h1, by rw [h2.length]⟩, q.now s rfl⟩
  · rename_i z
    split at ho
    · rename_i hz
      cases ho
      obtain ⟨v, rfl, h⟩ := hv.one
      have h : v = .str z := h
      subst h
      exact ⟨_, z.length, rfl, ⟨Nat.le_trans hz (by decide), rfl⟩, q.now s rfl⟩
    · cases ho
  · cases ho
def dList : List D → Option D
  | [.list ds] => some (.list ds)
  | [.tuple ds] => some (.list ds)
  | _ => none
theorem s_list : LSem K (fun xs H Q => ∃ p ys, xs = [.ref p] ∧ (SqL K H p ys ∨ SqT K H p ys) ∧ ∀ l, H l = none → Q (.ref l) (upd H l (.lst ys))) dList .ow := by
  intro F H ds vs d Q s hv ho q
  unfold dList at ho
  split at ho
  · rename_i es
    cases ho
    obtain ⟨v, rfl, a, xs, rfl, h1, h2⟩ := hv.one
    exact ⟨a, xs, rfl, .inl h1, q.lst s h2⟩
  · rename_i es
    cases ho
    obtain ⟨v, rfl, a, xs, rfl, h1, h2⟩ := hv.one
    exact ⟨a, xs, rfl, .inr (same_sqt s h1), q.lst s h2⟩
  · cases ho
def dTuple : List D → Option D
  | [.list ds] => some (.tuple ds)
  | [.tuple ds] => some (.tuple ds)
  | _ => none
def bools : List D → Option (List Bool)
  | [] => some []
  | .bool b :: ds => (bools ds).map (b :: ·)
  | _ :: _ => none
theorem bools_v {F : Hp} : ∀ {ds : List D} {bs : List Bool} {xs : List V}, bools ds = some bs → RpA K F ds xs → xs = bs.map V.bl
  | [], bs, xs, h, r => by
    cases h
    exact r
  | .bool b :: ds, bs, xs, h, r => by
    obtain ⟨cs, h1, rfl⟩ := map_some h
    obtain ⟨v, vs, rfl, r1, r2⟩ := r
    have r1 : v = .bl b := r1
    rw [r1, bools_v h1 r2]
    rfl
  | .none :: _, _, _, h, _ => by cases h
  | .int _ :: _, _, _, h, _ => by cases h
  | .str _ :: _, _, _, h, _ => by cases h
  | .list _ :: _, _, _, h, _ => by cases h
  | .tuple _ :: _, _, _, h, _ => by cases h
  | .dict _ :: _, _, _, h, _ => by cases h
def dAll : List D → Option D
  | [.list ds] => (bools ds).map fun bs => .bool (bs.all id)
  | _ => none
theorem s_all : LSem K (rAll K) dAll .fz := by
  intro F H ds vs d Q s hv ho q
  unfold dAll at ho
  split at ho
  · rename_i es
    obtain ⟨bs, h1, rfl⟩ := map_some ho
    obtain ⟨v, rfl, a, xs, rfl, h2, h3⟩ := hv.one
    have e := bools_v h1 h3
    subst e
    exact ⟨a, bs, rfl, h2, q.now s rfl⟩
  · cases ho
def tyD : D → String
  | .none => "NoneType"
  | .bool _ => "bool"
  | .int _ => "int"
  | .str _ => "str"
  | .list _ => "list"
  | .tuple _ => "tuple"
  | .dict _ => "dict"
def obD : D → Bool
  | .dict kvs => noOb kvs
  | _ => true
def dIsR (n : String) (d : D) : Option D := match n with
    | "int" => some (.bool (match d with | .int _ => true | .bool _ => true | _ => false))
    | "bool" => some (.bool (match d with | .bool _ => true | _ => false))
    | "str" => some (.bool (match d with | .str _ => true | _ => false))
    | "list" => some (.bool (match d with | .list _ => true | _ => false))
    | "tuple" => some (.bool (match d with | .tuple _ => true | _ => false))
    | "dict" => some (.bool (match d with | .dict _ => true | _ => false))
    | _ => none
def dIs (n : String) : List D → Option D
  | [d] => (match obD d with
    | true => dIsR n d
    | false => none)
  | _ => none
theorem sql_ty {H : Hp} {a : Addr} {xs : List V} (h : SqL K H a xs) : TyX K H (.ref a) (.type "list") := by
  rcases h with (h | ⟨o, h⟩) | ⟨o, _, _, h1, h2, _⟩
  · exact .base (.lst h)
  · exact .base (.frz h)
  · exact .kList h1 h2
theorem sqt_ty {H : Hp} {a : Addr} {xs : List V} (h : SqT K H a xs) : TyX K H (.ref a) (.type "tuple") := by
  rcases h with (h | ⟨o, h⟩) | ⟨o, _, _, h1, h2, _⟩
  · exact .base (.tup h)
  · exact .fTuple h
  · exact .kTuple h1 h2
theorem dk_ty {H : Hp} {a : Addr} {kvs : List (Key × V)} (h : Rd H a (.dK kvs)) : TyX K H (.ref a) (.type "dict") := by
  rcases h with h | ⟨o, h⟩
  · exact .base (.dK h)
  · exact .fDict h
theorem vw_ty {F H : Hp} (s : Same F H) : ∀ {d : D} {v : V}, obD d = true → Vw K F H d v → TyX K H v (.type (tyD d))
  | .none, v, _, h => by
    have h : v = .non := h
    rw [h]
    exact .base .non
  | .bool b, v, _, h => by
    have h : v = .bl b := h
    rw [h]
    exact .base (.bl b)
  | .int i, v, _, h => by
    have h : v = .int i := h
    rw [h]
    exact .base (.int i)
  | .str z, v, _, h => by
    have h : v = .str z := h
    rw [h]
    exact .base (.str z)
  | .list ds, v, _, ⟨a, xs, e, h1, _⟩ => by
    rw [e]
    exact sql_ty h1
  | .tuple ds, v, _, ⟨a, xs, e, h1, _⟩ => by
    rw [e]
    exact sqt_ty (same_sqt s h1)
  | .dict ds, v, _, .inl ⟨a, xs, e, h1, _⟩ => by
    rw [e]
    exact dk_ty h1
  | .dict ds, v, h0, .inr h => by
    have h1 : noOb ds = true := h0
    rw [h.ob] at h1
    cases h1
theorem is_kit : ∀ {n : String} {d : D} {z : D}, dIs n [d] = some z → obD d = true ∧ ∃ b, z = .bool b ∧ PySem.W.kitOne K (.type (tyD d)) (.type n) = some b := fun {n d z} h => by
  have h' : (match obD d with
    | true => dIsR n d
    | false => none) = some z := h
  cases ho : obD d with
  | false =>
    rw [ho] at h'
    cases h'
  | true =>
  rw [ho] at h'
  refine ⟨rfl, ?_⟩
  have h : dIsR n d = some z := h'
  clear h' ho
  unfold dIsR at h
  split at h <;> first
    | (cases h; done)
    | (cases h; refine ⟨_, rfl, ?_⟩; cases d <;> (dsimp only [tyD]; exact kit_ty (by decide +kernel)))
end
section
variable {X : Cx} {O L : List Kd} {e a b : Expr} {es : List Expr} {ma : MA} {m mb : M} {ks : List Ak} {ka kb k : Ak} {op : List D → Option D} {x : Str} {p q pos apos : Pos} {T id : String} {i : Nat}
theorem e_isi {n : String} {nx : Str} (hm : X.mg "isinstance" = none) (hn : X.mg nx = none) (hv : bootBuiltins nx = some (.type n)) (ha : PE X e (tE X.K O m ka)) (hg : Gl X "isinstance" := by rfl) (hgn : Gl X nx := by rfl) (h1 : nx ≠ "__name__" := by decide) (h2 : (nx == ("__debug__" : Str)) = false := by decide)
    (he : starEach (e :: [.Name nx q]) X.env = (false, eval e X.env) :: starEach [.Name nx q] X.env := by rfl) (hpl : (backTo pos (starEach [.Name nx q] X.env)).any (·.1) = false := by rfl) (hs2 : starEach [.Name nx q] X.env = (false, eval (.Name nx q) X.env) :: starEach [] X.env := by rfl) :
    PE X (.Call (.Name "isinstance" p) [e, .Name nx q] [] pos) (tE X.K O (m1 ka m (dIs n)) .fz) := by
  refine PEi (pe_callB call_isi hg hm (by decide +kernel) (pa_cons ha (pa_cons (pe_bltn (v := .ty n) hgn hn hv rfl h1 h2) pa_nil hs2) he) (by decide) (by decide) he hpl) fun σ H Q h => ?_
  have hs : LSem X.K (fun vs H Q => ∃ v, vs = [v] ∧ rIsi X.K [v, .ty n] H Q) (dIs n) .fz := by
    intro F H ds vs d Q s hv ho q
    cases ds with
    | nil => cases ho
    | cons d0 r =>
      cases r with
      | cons _ _ => cases ho
      | nil =>
        obtain ⟨v, rfl, h1⟩ := hv.one
        obtain ⟨h0, b, rfl, kb⟩ := is_kit (K := X.K) ho
        exact ⟨v, rfl, v, .ty n, _, _, b, rfl, .ty n, vw_ty s h0 h1, kb, q.now s rfl⟩
  have z := tA_cons (tA_op hs h)
  obtain ⟨F, ρ, d, ρ', ok, hmm, z⟩ := z
  refine ⟨F, ρ, d, ρ', ok, hmm, fun v F1 H1 ok1 st1 r1 => ?_⟩
  obtain ⟨F4, ρ4, ds, ρ4', ok4, hm4, q4⟩ := z v F1 H1 ok1 st1 r1
  cases hm4
  obtain ⟨v', e1, z1⟩ := q4 [] F4 H1 ok4 (.refl _ _) ⟨rfl, rfl⟩
  cases e1
  exact z1
def dIx : List D → Option D
  | [.list ds, .int i] => atI ds i
  | [.tuple ds, .int i] => atI ds i
  | [.str z, .int i] => if z.length ≤ 100000 then (atI z.cps.toList i).map fun c => .str ⟨#[c]⟩ else none
  | _ => none
theorem atI_v {K : PySem.W.Frag} {F : Hp} {ds : List D} {xs : List V} {i : Int} {d : D} (r : RpA K F ds xs) (h : atI ds i = some d) : ∃ v, atI xs i = some v ∧ Rp K F d v := by
  unfold atI at h ⊢
  rw [r.length]
  obtain ⟨j, h1, h2⟩ := bind_some h
  obtain ⟨v, h3, h4⟩ := r.get h2
  exact ⟨v, by rw [h1]; exact h3, h4⟩
theorem s_ix {K : PySem.W.Frag} : LSem K (rL2 (rIx K)) dIx .fz := by
  intro F H ds vs d Q s hv ho q
  unfold dIx at ho
  split at ho
  · rename_i es i
    obtain ⟨v, u, rfl, ⟨a, xs, rfl, h1, h2⟩, h3⟩ := hv.two
    have h3 : u = .int i := h3
    subst h3
    obtain ⟨w, h4, h5⟩ := atI_v h2 ho
    exact ⟨_, _, rfl, .inl ⟨a, xs, i, w, rfl, rfl, h1, h4, q.now s h5⟩⟩
  · rename_i es i
    obtain ⟨v, u, rfl, ⟨a, xs, rfl, h1, h2⟩, h3⟩ := hv.two
    have h3 : u = .int i := h3
    subst h3
    obtain ⟨w, h4, h5⟩ := atI_v h2 ho
    exact ⟨_, _, rfl, .inr (.inl ⟨a, xs, i, w, rfl, rfl, same_sqt s h1, h4, q.now s h5⟩)⟩
  · rename_i z i
    split at ho
    · rename_i hz
      obtain ⟨v, u, rfl, h1, h3⟩ := hv.two
      have h1 : v = .str z := h1
      have h3 : u = .int i := h3
      subst h1 h3
      obtain ⟨c, h4, rfl⟩ := map_some ho
      exact ⟨_, _, rfl, .inr (.inr ⟨z, i, c, rfl, rfl, Nat.le_trans hz (by decide), h4, q.now s rfl⟩)⟩
    · cases ho
  · cases ho
def mSetIx (i : Nat) (mi mv : M) : MS := fun ρ => (mv ρ).bind fun p => (mBr i p.2).bind fun _ => (mi p.2).bind fun q => match q.1, q.2[i]? with
  | .int j, some (some (.list ds)) => (ixN ds.length j).map fun n => (.nx, q.2.set i (some (.list (ds.set n p.1))))
  | _, _ => none
def cutG {α : Type} (xs : List α) (lo hi : Option Int) : List α := (xs.drop (HT.sIx xs.length 0 lo)).take (HT.sIx xs.length xs.length hi - HT.sIx xs.length 0 lo)
theorem cutG_v {K : PySem.W.Frag} {F : Hp} {ds : List D} {xs : List V} (r : RpA K F ds xs) (lo hi : Option Int) : RpA K F (cutG ds lo hi) (cutV xs lo hi) := by
  unfold cutG cutV
  rw [r.length]
  exact (r.drop _).take _
abbrev MO := En → Option (Option Int × En)
def tO (K : PySem.W.Frag) (O : List Kd) (m : MO) : TO := fun σ H Q => ∃ F ρ b ρ', Ok K O ⟨F, H, σ, ρ⟩ ∧ m ρ = some (b, ρ') ∧ ∀ F' H', Ok K O ⟨F', H', σ, ρ'⟩ → Stp O ⟨F, H, σ, ρ⟩ ⟨F', H', σ, ρ'⟩ → Q b H'
def mNo : MO := fun ρ => some (none, ρ)
def mPt (m : M) : MO := fun ρ => (m ρ).bind fun p => match p.1 with
  | .int i => some (some i, p.2)
  | _ => none
theorem POi {t t' : TO} {oe : Option Expr} (h : PO X oe t) (k : ∀ σ H Q, t' σ H Q → t σ H Q) : PO X oe t' := ⟨fun pins s σ H Q I q => h.run pins s σ H Q I (k σ H Q q)⟩
theorem o_no : PO X none (tO X.K O mNo) := POi po_none fun σ H Q ⟨F, ρ, b, ρ', ok, hm, q⟩ => by
  cases hm
  exact q F H ok (.refl _ _)
theorem o_pt (h : PE X e (tE X.K O m .fz)) : PO X (some e) (tO X.K O (mPt m)) := POi (po_some h) fun σ H Q ⟨F, ρ, b, ρ', ok, hm, q⟩ => by
  obtain ⟨⟨d, ρ1⟩, e1, e2⟩ := bind_some hm
  cases d <;> cases e2
  exact ⟨F, ρ, _, ρ1, ok, e1, fun v F1 H1 ok1 st1 r1 => ⟨_, r1, q F1 H1 ok1 st1⟩⟩
def mSl (ka : Ak) (m : M) (lo hi : MO) (op : D → Option Int → Option Int → Option D) : M := fun ρ => (m ρ).bind fun p => (lo p.2).bind fun q => (hi q.2).bind fun z => (fill [ka] [p.1] z.2).bind fun ds => match ds with
  | [d] => (op d q.1 z.1).map fun y => (y, z.2)
  | _ => none
def dSlL (d : D) (lo hi : Option Int) : Option D := match d with
  | .list ds => some (.list (cutG ds lo hi))
  | _ => none
def dSlT (d : D) (lo hi : Option Int) : Option D := match d with
  | .tuple ds => some (.tuple (cutG ds lo hi))
  | _ => none
def SlSem (K : PySem.W.Frag) (r : V → Option Int → Option Int → Hp → VK → Prop) (op : D → Option Int → Option Int → Option D) (k : Ak) : Prop := ∀ (F H : Hp) (d : D) (v : V) (lo hi : Option Int) (z : D) (Q : VK), Same F H → Vw K F H d v → op d lo hi = some z → Post K F H k z Q → r v lo hi H Q
theorem sl_l {K : PySem.W.Frag} : SlSem K (rSlL K) dSlL .ow := by
  intro F H d v lo hi z Q s hv ho q
  unfold dSlL at ho
  split at ho
  · cases ho
    obtain ⟨a, xs, e, h1, h2⟩ := hv
    exact ⟨a, xs, e, h1, q.lst s (cutG_v h2 lo hi)⟩
  · cases ho
theorem cut_all {α : Type} {xs : List α} {lo hi : Option Int} (h : HT.sIx xs.length 0 lo = 0 ∧ HT.sIx xs.length xs.length hi = xs.length) : cutG xs lo hi = xs := by
  unfold cutG
  rw [h.1, h.2, List.drop_zero, Nat.sub_zero, List.take_length]
theorem sl_t {K : PySem.W.Frag} : SlSem K (rSlA K) dSlT .fz := by
  intro F H d v lo hi z Q s hv ho q
  unfold dSlT at ho
  split at ho
  · rename_i ds
    cases ho
    obtain ⟨a, xs, e, h1, h2⟩ := hv
    refine ⟨a, xs, e, same_sqt s h1, fun h => ?_, fun _ => q.tup s (cutG_v h2 lo hi)⟩
    rw [h2.length] at h
    rw [cut_all h] at q
    subst e
    exact q.now s ⟨a, xs, rfl, h1, h2⟩
  · cases ho
theorem e_sl {r : V → Option Int → Option Int → Hp → VK → Prop} {sop : D → Option Int → Option Int → Option D} {lo hi : Option Expr} {ml mh : MO} (hr : SlR X r) (hs : SlSem X.K r sop k) (he : PE X e (tE X.K O m ka)) (h1 : PO X lo (tO X.K O ml)) (h2 : PO X hi (tO X.K O mh)) :
    PE X (.Subscript e (.Slice lo hi none p) pos) (tE X.K O (mSl ka m ml mh sop) k) := by
  refine PEi (pe_slice hr he h1 h2) fun σ H Q ⟨F, ρ, d, ρ', ok, hm, q⟩ => ?_
  obtain ⟨⟨d1, ρ1⟩, e1, e2⟩ := bind_some hm
  obtain ⟨⟨b1, ρ2⟩, e3, e4⟩ := bind_some e2
  obtain ⟨⟨b2, ρ3⟩, e5, e6⟩ := bind_some e4
  obtain ⟨ds, e7, e8⟩ := bind_some e6
  refine ⟨F, ρ, d1, ρ1, ok, e1, fun v F1 H1 ok1 st1 r1 => ⟨F1, ρ1, b1, ρ2, ok1, e3, fun F2 H2 ok2 st2 => ⟨F2, ρ2, b2, ρ3, ok2, e5, fun F3 H3 ok3 st3 => ?_⟩⟩⟩
  have rr : Rss X.K O ⟨F, H, σ, ρ⟩ ⟨F3, H3, σ, ρ3⟩ [ka] [d1] [v] := ⟨d1, [], v, [], rfl, rfl, (r1.step st2 rfl).step st3 rfl, rfl, rfl⟩
  have vw := rr.views ok3 e7
  split at e8
  · rename_i dd
    obtain ⟨y, e9, ea⟩ := map_some e8
    cases ea
    obtain ⟨v', ev, vw⟩ := vw.one
    cases ev
    refine hs F3 H3 dd v b1 b2 d Q ok3.sub vw e9 fun u F4 H4 pu r4 => ?_
    obtain ⟨ok4, st4⟩ := ok3.pur pu
    have go := (st1.trans st2).trans st3
    exact q u F4 H4 ok4 (go.trans st4) ((r4.rs ok3 st4).pre go)
  · cases e8
def dRev : List D → Option D
  | [.list ds] => some (.list ds.reverse)
  | _ => none
def dCat : List D → Option D
  | [.list xs, .list ys] => if xs.length + ys.length ≤ 1000000 then some (.list (xs ++ ys)) else none
  | _ => none
def rCatS (K : PySem.W.Frag) : R2 := fun x y H Q => ∃ l b xs zs, x = .ref l ∧ y = .ref b ∧ SqL K H l xs ∧ SqL K H b zs ∧ xs.length + zs.length ≤ sizeLine ∧ ∀ p, H p = none → Q (.ref p) (upd H p (.lst (xs ++ zs)))
theorem op_catS : OpR X (binaryOp .Add) (rCatS X.K) := by
  intro pins s σ H x y v u Q I rx ry h
  obtain ⟨l, b, xs, zs, rfl, rfl, hl, hb, hz, q⟩ := h
  cases rx
  cases ry
  obtain ⟨its, r1, ⟨⟨cls1, dd1, dt1, sl1⟩, n1, o1, c1, _, t1⟩, _⟩ := I.list hl
  obtain ⟨jts, r2, ⟨⟨cls2, dd2, dt2, sl2⟩, n2, o2, c2, _, t2⟩, _⟩ := I.list hb
  simp only at c1 t1 c2 t2
  subst c1 t1 c2 t2
  have l1 := r1.length
  have l2 := r2.length
  refine concat_meets ⟨_, o1, rfl⟩ ⟨_, o2, rfl⟩ noFill_list_add seq_list_add PySem.F.slot_list_add PySem.F.entry_list_add (PySem.F.args_list_add_2 _ _) (list_addW l b its.toArray jts.toArray n1 n2 dd1 dd2 sl1 sl2 (by rw [List.size_toArray, List.size_toArray]; omega)) ⟨o1, o2, ?_⟩
  rw [show its.toArray ++ jts.toArray = (its ++ jts).toArray by simp]
  exact ⟨.ref _, _, I.lnew (t' := s.toks) (r1.append r2) (by rw [List.length_append]; omega), rfl, q _ I.fresh⟩
theorem s_cat {K : PySem.W.Frag} : LSem K (rL2 (rCatS K)) dCat .ow := by
  intro F H ds vs d Q s hv ho q
  unfold dCat at ho
  split at ho
  · rename_i es fs
    split at ho
    · rename_i hz
      cases ho
      obtain ⟨v, u, rfl, ⟨a, xs, rfl, h1, h2⟩, b, ys, rfl, h3, h4⟩ := hv.two
      exact ⟨_, _, rfl, a, b, xs, ys, rfl, rfl, h1, h3, by rw [h2.length, h4.length]; exact Nat.le_trans hz (by decide), q.lst s (h2.append h4)⟩
    · cases ho
  · cases ho
def MSem (K : PySem.W.Frag) (r : V → List V → Hp → VK → Prop) (op : D → List D → Option (D × D)) : Prop := ∀ (F H : Hp) (p : Addr) (d0 : D) (vs : List V) (ds : List D) (d d0' : D) (Q : VK), Same F H → F p = none → OwnO K F H p d0 → RpA K F ds vs → op d0 ds = some (d, d0') →
  (∀ v o, OwnC K F o d0' → Rp K F d v → Q v (upd H p o)) → r (.ref p) vs H Q
def isTy (T : String) (d : D) : Bool := match d with
  | .list _ => decide (T = "list")
  | .dict _ => decide (T = "dict")
  | .str _ => decide (T = "str")
  | _ => false
def mMut (i : Nat) (T : String) (ma : MA) (op : D → List D → Option (D × D)) : M := fun ρ => match ρ[i]? with
  | some (some d1) => if isTy T d1 = true then (ma ρ).bind fun q => (match q.2[i]? with
    | some (some d0) => (op d0 q.1).map fun z => (z.1, q.2.set i (some z.2))
    | _ => none) else none
  | _ => none
theorem own_ty {K : PySem.W.Frag} {F H : Hp} {p : Addr} {T : String} : ∀ {d : D}, isTy T d = true → OwnO K F H p d → tyV K T (.ref p) H
  | .list ds, h, ⟨o, h1, xs, h2, h3⟩ => .inl ⟨of_decide_eq_true h, xs, .inl (.inl (by rw [h1, h2]))⟩
  | .dict ds, h, ⟨o, h1, xs, h2, h3⟩ => .inr (.inr (.inl ⟨of_decide_eq_true h, .inl ⟨xs, by rw [h1, h2]⟩⟩))
  | .none, h, _ => by cases h
  | .bool _, h, _ => by cases h
  | .int _, h, _ => by cases h
  | .str _, _, ⟨_, _, h⟩ => h.elim
  | .tuple _, h, _ => by cases h
theorem mut_core {K : PySem.W.Frag} {r : V → List V → Hp → VK → Prop} {mop : D → List D → Option (D × D)} {F F1 H H1 : Hp} {σ : L2.St} {ρ ρ1 : En} {d0 d d0' : D} {ds : List D} {vs : List V} {xv : V} {Q : VK} (hO : mutK O[i]? = true) (hs : MSem K r mop) (st1 : Stp O ⟨F, H, σ, ρ⟩ ⟨F1, H1, σ, ρ1⟩) (ok1 : Ok K O ⟨F1, H1, σ, ρ1⟩)
    (hx : sv O H1 σ i = some (some xv)) (h0 : ρ1[i]? = some (some d0)) (ra : RpA K F1 ds vs) (ho : mop d0 ds = some (d, d0'))
    (q : ∀ v F' H', Ok K O ⟨F', H', σ, ρ1.set i (some d0')⟩ → Stp O ⟨F, H, σ, ρ⟩ ⟨F', H', σ, ρ1.set i (some d0')⟩ → Rs K O ⟨F, H, σ, ρ⟩ ⟨F', H', σ, ρ1.set i (some d0')⟩ .fz d v → Q v H') : r xv vs H1 Q := by
  have hk : ∃ k : Kd, O[i]? = some k ∧ k.own = true ∧ k.lock = false := by
    cases e : O[i]? with
    | none =>
      rw [e] at hO
      cases hO
    | some k =>
      rw [e] at hO
      cases k <;> first | exact ⟨_, rfl, rfl, rfl⟩ | cases hO
  obtain ⟨k, k1, k2, k3⟩ := hk
  obtain ⟨p, y1, y2, y3⟩ := ok1.ow i k d0 k1 k2 h0
  have y1 : sv O H1 σ i = some (some (.ref _)) := y1
  rw [hx] at y1
  cases y1
  refine hs F1 H1 p d0 vs ds d d0' Q ok1.sub y2 y3 ra ho fun v o hc rv => ?_
  obtain ⟨z1, z2⟩ := ok1.chg (o := o) (d := d0') k1 k2 k3 h0 hx y2 hc
  exact q v F1 _ z1 (st1.trans z2) rv
theorem mut_pre {K : PySem.W.Frag} {T : String} {mop : D → List D → Option (D × D)} {ρ ρ' : En} {d : D} (h : mMut i T ma mop ρ = some (d, ρ')) :
    ∃ d1 ds ρ1 d0 z, ρ[i]? = some (some d1) ∧ isTy T d1 = true ∧ ma ρ = some (ds, ρ1) ∧ ρ1[i]? = some (some d0) ∧ mop d0 ds = some (d, z) ∧ ρ' = ρ1.set i (some z) := by
  obtain ⟨d1, e1, e2⟩ := slot_some h
  split at e2
  · rename_i ht
    obtain ⟨⟨ds, ρ1⟩, e3, e4⟩ := bind_some e2
    obtain ⟨d0, e5, e6⟩ := slot_some e4
    obtain ⟨⟨d2, z⟩, e7, e8⟩ := map_some e6
    cases e8
    exact ⟨d1, ds, ρ1, d0, z, e1, ht, e3, e5, e7, rfl⟩
  · cases e2
theorem e_mut (i : Nat) {name : Str} {rr : V → List V → Hp → VK → Prop} {mop : D → List D → Option (D × D)} (pa : PlainAttrs T) (slot : Slot T name id) (hty : typeOf (.builtin id) = pure (.type "method_descriptor")) (hmr : MtR X id rr) (hs : MSem X.K rr mop) (ho : PE X a (tE X.K O (mBr i) (.br i))) (ha : PA X (e :: es) (tA X.K O ma ks))
    (hO : mutK O[i]? = true := by rfl) (hks : allFz ks = true := by rfl) (hbase : attributeBase a name X.env (eval a X.env) = eval a X.env := by rfl)
    (hfew : ((backTo pos (starEach (e :: es) X.env)).all (fun x => !x.1) && (backToKw pos (keywordEach [] X.env)).all (fun x => x.1.isSome)
      && decide ((e :: es).length + ([] : List Keyword).length + (if ([] : List Keyword).isEmpty then 0 else 1) < 30)) = true := by rfl)
    (hline : (apos.endLine == pos.line) = true := by rfl) (hst : starEach (e :: es) X.env = (false, eval e X.env) :: starEach es X.env := by rfl) (hplain : (backTo pos (starEach es X.env)).any (·.1) = false := by rfl) :
    PE X (.Call (.Attribute a name apos) (e :: es) [] pos) (tE X.K O (mMut i T ma mop) .fz) := by
  refine PEi (pe_bm pa slot hty hmr ho ha hbase hfew hline hst hplain) fun σ H Q ⟨F, ρ, d, ρ', ok, hm, q⟩ => ?_
  obtain ⟨d1, ds, ρ1, d0, z, e1, ht, e3, e5, e7, rfl⟩ := mut_pre (K := X.K) hm
  refine ⟨F, ρ, .none, ρ, ok, by unfold mBr; rw [e1], fun v F1 H1 ok1 st1 r1 => ?_⟩
  obtain ⟨r1, k0, k1, k2⟩ := r1
  obtain ⟨p, y1, y2, y3⟩ := ok1.ow i k0 _ k1 k2 e1
  have y1 : sv O H1 σ i = some (some (.ref p)) := y1
  have r1 : sv O H1 σ i = some (some v) := r1
  rw [y1] at r1
  cases r1
  refine ⟨own_ty ht y3, F1, ρ, ds, ρ1, ok1, e3, fun vs F2 H2 ok2 st2 r2 => ?_⟩
  obtain ⟨ra, _⟩ := r2.fz hks
  exact mut_core hO hs (st1.trans st2) ok2 ((sv_same st2.ost).trans y1) e5 ra e7 q
def dAppend (d0 : D) (ds : List D) : Option (D × D) := match d0, ds with
  | .list xs, [d] => if xs.length < 1000000 then some (.none, .list (xs ++ [d])) else none
  | _, _ => none
theorem ms_append {K : PySem.W.Frag} : MSem K rAppend dAppend := by
  intro F H p d0 vs ds d d0' Q s hp ow ra ho q
  unfold dAppend at ho
  split at ho
  · rename_i xs y
    split at ho
    · rename_i hz
      cases ho
      obtain ⟨o, h1, us, rfl, h3⟩ := ow
      obtain ⟨v, rfl, rv⟩ := ra.one
      exact ⟨p, us, v, rfl, rfl, h1, by rw [h3.length]; exact Nat.lt_of_lt_of_le hz (by decide), q .non _ ⟨_, rfl, h3.append (.cons rv .nil)⟩ rfl⟩
    · cases ho
  · cases ho
end
def mFz (i : Nat) (m : MS) : MS := fun ρ => (m ρ).map fun p => (p.1, p.2.set i none)
section
variable {X : Cx} {O L : List Kd} {e a b c : Expr} {es : List Expr} {ma : MA} {m mb mc : M} {ks : List Ak} {ka kb kc k : Ak} {x : Str} {p q pos apos : Pos} {i : Nat}
theorem e_glob {v : V} {u : Value} {d : D} (hm : X.mg x = some u) (r : RelV v u) (hd : ∀ F : Hp, Rp X.K F d v) (hg : Gl X x := by rfl) (h1 : (x == ("__debug__" : Str)) = false := by decide) : PE X (.Name x p) (tE X.K O (mC d) .fz) := e_const (pe_glob hg hm r h1) hd
def mChain (f g : Int → Int → Bool) (ma mb mc : M) : M := fun ρ => (ma ρ).bind fun p => (mb p.2).bind fun q => match p.1, q.1 with
  | .int i, .int j => if f i j = true then (mc q.2).bind fun z => (match z.1 with
      | .int n => some (.bool (g j n), z.2)
      | _ => none)
    else some (.bool false, q.2)
  | _, _ => none
theorem chain_out {f g : Int → Int → Bool} {σ : L2.St} {H : Hp} {Q : VK} (h : tE X.K O (mChain f g m mb mc) .fz σ H Q) :
    tChain (rI0 fun i j => .bl (f i j)) (rI0 fun i j => .bl (g i j)) (tE X.K O m .fz) (tE X.K O mb .fz) (tE X.K O mc .fz) σ H Q := by
  obtain ⟨F, ρ, d, ρ', ok, hm, qq⟩ := h
  obtain ⟨⟨d1, ρ1⟩, e1, e2⟩ := bind_some hm
  obtain ⟨⟨d2, ρ2⟩, e3, e4⟩ := bind_some e2
  refine ⟨F, ρ, d1, ρ1, ok, e1, fun v F1 H1 ok1 st1 r1 => ⟨F1, ρ1, d2, ρ2, ok1, e3, fun u F2 H2 ok2 st2 r2 => ?_⟩⟩
  cases d1 <;> cases d2 <;> try (cases e4; done)
  rename_i i j
  dsimp only at e4
  have r1 : v = .int i := r1
  have r2 : u = .int j := r2
  subst r1 r2
  refine ⟨i, j, rfl, rfl, f i j, rfl, ?_⟩
  cases hf : f i j with
  | false =>
    rw [hf, if_neg Bool.false_ne_true] at e4
    cases e4
    rw [if_neg Bool.false_ne_true]
    exact qq _ F2 H2 ok2 (st1.trans st2) rfl
  | true =>
    rw [hf, if_pos rfl] at e4
    rw [if_pos rfl]
    obtain ⟨⟨d3, ρ3⟩, e5, e6⟩ := bind_some e4
    refine ⟨F2, ρ2, d3, ρ3, ok2, e5, fun t F3 H3 ok3 st3 r3 => ?_⟩
    cases d3 <;> try (cases e6; done)
    rename_i n
    cases e6
    have r3 : t = .int n := r3
    subst r3
    exact ⟨j, n, rfl, rfl, qq _ F3 H3 ok3 ((st1.trans st2).trans st3) rfl⟩
theorem e_chain {f g : Int → Int → Bool} {o1 o2 : CmpOp} (h1 : OpR X (compareOp o1) (rI0 fun i j => .bl (f i j))) (h2 : OpR X (compareOp o2) (rI0 fun i j => .bl (g i j))) (ha : PE X a (tE X.K O m .fz)) (hb : PE X b (tE X.K O mb .fz)) (hc : PE X c (tE X.K O mc .fz))
    (hm : lastMarks [o1, o2] [b, c] = false := by with_unfolding_all rfl) : PE X (.Compare a [o1, o2] [b, c] pos) (tE X.K O (mChain f g m mb mc) .fz) := PEi (pe_chain h1 h2 ha hb hc hm) fun _ _ _ h => chain_out h
theorem t_chain {f g : Int → Int → Bool} {o1 o2 : CmpOp} (h1 : OpR X (compareOp o1) (rI0 fun i j => .bl (f i j))) (h2 : OpR X (compareOp o2) (rI0 fun i j => .bl (g i j))) (ha : PE X a (tE X.K O m .fz)) (hb : PE X b (tE X.K O mb .fz)) (hc : PE X c (tE X.K O mc .fz))
    (hm : lastMarks [o1, o2] [b, c] = false := by with_unfolding_all rfl) : PT X (.Compare a [o1, o2] [b, c] pos) (tT X.K O (mTr (mChain f g m mb mc))) := PTi (pt_chain h1 h2 ha hb hc hm) fun _ _ _ h => chain_out (tTr h)
def zipD : List D → List D → List D
  | x :: xs, y :: ys => .tuple [x, y] :: zipD xs ys
  | _, _ => []
theorem zipD_len : ∀ {xs ys : List D}, (zipD xs ys).length = min xs.length ys.length
  | [], _ => by simp [zipD]
  | _ :: _, [] => by simp [zipD]
  | x :: xs, y :: ys => by
    show (zipD xs ys).length + 1 = _
    rw [zipD_len, List.length_cons, List.length_cons]
    omega
theorem zipD_get : ∀ {xs ys : List D} {i : Nat} {x y : D}, xs[i]? = some x → ys[i]? = some y → (zipD xs ys)[i]? = some (.tuple [x, y])
  | [], _, _, _, _, h, _ => by simp at h
  | _ :: _, [], _, _, _, _, h => by simp at h
  | a :: xs, b :: ys, 0, x, y, h, h' => by
    have h : a = x := by simpa using h
    have h' : b = y := by simpa using h'
    rw [h, h'] <;> rfl
  | a :: xs, b :: ys, i + 1, x, y, h, h' => by
    show (_ :: zipD xs ys)[i + 1]? = _
    rw [List.getElem?_cons_succ]
    exact zipD_get (by simpa using h) (by simpa using h')
theorem yd_pair {K : PySem.W.Frag} {F0 : Hp} {ds es : List D} {f g : Nat → Option V} (hf : ∀ {i v}, f i = some v → ∃ d, ds[i]? = some d ∧ Rp K F0 d v) (hg : ∀ {i v}, g i = some v → ∃ d, es[i]? = some d ∧ Rp K F0 d v) {i : Nat} {H : Hp} {x : V} {H' : Hp} (y : YPair f g i H x H') : YD K F0 (zipD ds es) i H x H' := fun F e s => by
  obtain ⟨T, u, v, rfl, hT, rfl, h1, h2⟩ := y
  obtain ⟨d1, g1, g2⟩ := hf h1
  obtain ⟨d2, g3, g4⟩ := hg h2
  have pu := Pur.frozen s hT (.tup [u, v])
  exact ⟨_, pu, _, zipD_get g1 g3, T, [u, v], rfl, .inl (.inl upd_same), .cons (g2.mono (e.trans pu.ex)) (.cons (g4.mono (e.trans pu.ex)) .nil)⟩
def mIt2 (ks : List Ak) (ma : MA) (f : List D → Option (List D)) : MI := fun ρ => (ma ρ).bind fun p => (fill ks p.1 p.2).bind fun ds => (f ds).map fun r => (r, p.2)
end
def lkArgs (L : List Kd) : List Ak → Bool
  | [] => true
  | .br i :: ks => (match L[i]? with
    | some k => k.lock
    | none => false) && lkArgs L ks
  | .fz :: ks => lkArgs L ks
  | .ow :: ks => lkArgs L ks
def Stands (K : PySem.W.Frag) (O L : List Kd) (w w1 : Wd) (d : D) (v : V) : Prop := match d with
  | .list ds => ∃ a xs, v = .ref a ∧ SqL K w1.H a xs ∧ RpA K w1.F ds xs ∧ ∀ Z, Zok O w Z → ∀ w2, Ok K L w2 → Stq L Z w1 w2 → SqL K w2.H a xs
  | .tuple ds => ∃ a xs, v = .ref a ∧ SqT K w1.H a xs ∧ RpA K w1.F ds xs ∧ ∀ Z, Zok O w Z → ∀ w2, Ok K L w2 → Stq L Z w1 w2 → SqT K w2.H a xs
  | _ => True
section
variable {K : PySem.W.Frag} {O L : List Kd} {w w1 : Wd}
theorem stands_fz {d : D} {v : V} (ok : Ok K O w1) (r : Rp K w1.F d v) : Stands K O L w w1 d v := by
  unfold Stands
  split
  · obtain ⟨a, xs, e, h1, h2⟩ := r
    exact ⟨a, xs, e, ok.sub.seq h1, h2, fun Z _ w2 ok2 st2 => ok2.sub.seq (st2.ex.seq h1)⟩
  · obtain ⟨a, xs, e, h1, h2⟩ := r
    exact ⟨a, xs, e, same_sqt ok.sub h1, h2, fun Z _ w2 ok2 st2 => same_sqt ok2.sub (same_sqt st2.ex h1)⟩
  · trivial
theorem stands_ow {d : D} {v : V} (hl : lkOf O L = true) (ok : Ok K O w1) (r : Rs K O w w1 .ow d v) : Stands K O L w w1 d v := by
  obtain ⟨p, rfl, h1, ⟨o, h2, h3⟩, h5, h6, h7⟩ := r
  unfold Stands
  split
  · obtain ⟨xs, rfl, h4⟩ := h3
    refine ⟨p, xs, rfl, .inl (.inl h2), h4, fun Z hz w2 ok2 st2 => .inl (.inl ((Stq.unlock (K := K) hl st2).kp p _ (fun z => ?_) h2 h5 h7).1)⟩
    obtain ⟨⟨u, z1⟩, _, z3, _⟩ := hz p z
    rcases h6 with h6 | h6
    · exact z3 h6
    · rw [h6] at z1
      cases z1
  · exact h3.elim
  · trivial
theorem stands_br {d : D} {v : V} {i : Nat} (hl : lkOf O L = true) (hL : lkArgs L [.br i] = true) (ok : Ok K O w1) (r : Rs K O w w1 (.br i) d v) {e : D} (he : w1.ρ[i]? = some (some e)) : Stands K O L w w1 e v := by
  obtain ⟨r1, q, r2, r3⟩ := r
  obtain ⟨p, e1, e2, o, e3, e4⟩ := ok.ow i q e r2 r3 he
  rw [e1] at r1
  cases r1
  have hk : ∃ k : Kd, L[i]? = some k ∧ k.lock = true := by
    have z : ((match L[i]? with | some k => k.lock | none => false) && true) = true := hL
    cases y : L[i]? with
    | none =>
      rw [y] at z
      cases z
    | some k =>
      rw [y] at z
      exact ⟨k, rfl, (Bool.and_eq_true_iff.mp z).1⟩
  obtain ⟨k, k1, k2⟩ := hk
  unfold Stands
  split
  · obtain ⟨xs, rfl, h4⟩ := e4
    refine ⟨p, xs, rfl, .inl (.inl e3), h4, fun Z _ w2 ok2 st2 => .inl (.inl ?_)⟩
    rw [st2.lo i k p _ k1 k2 he ((lk_sv hl).trans e1)]
    exact e3
  · exact e4.elim
  · trivial
def StandsA (K : PySem.W.Frag) (O L : List Kd) (w w1 : Wd) : List D → List V → Prop
  | [], vs => vs = []
  | d :: ds, vs => ∃ v r, vs = v :: r ∧ Stands K O L w w1 d v ∧ StandsA K O L w w1 ds r
theorem Rss.stands (hl : lkOf O L = true) (ok : Ok K O w1) : ∀ {ks : List Ak} {ds : List D} {vs : List V} {es : List D}, lkArgs L ks = true → Rss K O w w1 ks ds vs → fill ks ds w1.ρ = some es → StandsA K O L w w1 es vs
  | [], _, _, _, _, ⟨h1, h2⟩, hf => by
    subst h1 h2
    cases hf
    rfl
  | .br i :: ks, _, _, _, hk, ⟨d, ds', v, vs', h1, h2, h3, h4⟩, hf => by
    subst h1 h2
    obtain ⟨d', e1, e2⟩ := slot_some hf
    obtain ⟨es', e3, e4⟩ := map_some e2
    subst e4
    obtain ⟨k1, k2⟩ := Bool.and_eq_true_iff.mp (show (_ && lkArgs L ks) = true from hk)
    exact ⟨v, vs', rfl, stands_br hl (Bool.and_eq_true_iff.mpr ⟨k1, rfl⟩) ok h3 e1, h4.stands hl ok k2 e3⟩
  | .fz :: ks, _, _, _, hk, ⟨d, ds', v, vs', h1, h2, h3, h4⟩, hf => by
    subst h1 h2
    obtain ⟨es', e3, e4⟩ := map_some hf
    subst e4
    exact ⟨v, vs', rfl, stands_fz ok h3, Rss.stands hl ok (ks := ks) hk h4 e3⟩
  | .ow :: ks, _, _, _, hk, ⟨d, ds', v, vs', h1, h2, h3, h4⟩, hf => by
    subst h1 h2
    obtain ⟨es', e3, e4⟩ := map_some hf
    subst e4
    exact ⟨v, vs', rfl, stands_ow hl ok h3, Rss.stands hl ok (ks := ks) hk h4 e3⟩
end
section
variable {X : Cx} {O L : List Kd} {tg e e2 : Expr} {ma : MA} {m : M} {ks : List Ak} {p pos tpos : Pos} {elts : List Expr} {kk : Nat}
def mItS (m : M) : MI := fun ρ => (m ρ).bind fun p => match p.1 with
  | .list ds => some (ds, p.2)
  | .tuple ds => some (ds, p.2)
  | _ => none
theorem PI.or {w w' : TI} (h : PI X tg e w) (h' : PI X tg e w') : PI X tg e (fun σ H R => w σ H R ∨ w' σ H R) := ⟨fun pins s σ H R I q => by
  rcases q with q | q
  · exact h.run pins s σ H R I q
  · exact h'.run pins s σ H R I q⟩
theorem i_seq (h : PE X e (tE X.K O m .fz)) : PI X tg e (tI X.K O L (mItS m)) := by
  refine PIi (PI.or (i_list (L := L) h) (i_tup (L := L) h)) fun σ H R ⟨F, ρ, ds, ρ', ok, hm, q⟩ => ?_
  obtain ⟨⟨d, ρ1⟩, e1, e3⟩ := bind_some hm
  cases d <;> cases e3
  · exact .inl ⟨F, ρ, _, ρ1, ok, by unfold mItL; rw [e1]; rfl, q⟩
  · exact .inr ⟨F, ρ, _, ρ1, ok, by unfold mItT; rw [e1]; rfl, q⟩
def enumD (ds : List D) : List D := zipD ((List.range ds.length).map fun (i : Nat) => PyData.int (i : Int)) ds
def dEnum : List D → Option (List D)
  | [.list xs] => some (enumD xs)
  | _ => none
theorem i_enum (hm : X.mg "enumerate" = none) (ha : PA X [e] (tA X.K O ma ks)) (hk : lkArgs L ks = true := by rfl) (hl : lkOf O L = true := by rfl) (hg : Gl X "enumerate" := by rfl) (hs : starEach [e] X.env = [(false, eval e X.env)] := by rfl) :
    PI X (.Tuple elts kk tpos) (.Call (.Name "enumerate" p) [e] [] pos) (tI X.K O L (mIt2 ks ma dEnum)) := by
  refine PIi (pi_enum hg hm ha hs) fun σ H R ⟨F, ρ, ds, ρ', ok, hmm, q⟩ => ?_
  obtain ⟨⟨as, ρ1⟩, e1, e3⟩ := bind_some hmm
  obtain ⟨es, e4, e5⟩ := bind_some e3
  obtain ⟨ds', e6, e7⟩ := map_some e5
  cases e7
  refine ⟨F, ρ, as, ρ1, ok, e1, fun vs F1 H1 ok1 st1 r1 => ?_⟩
  have sa := r1.stands hl ok1 hk e4
  unfold dEnum at e6
  split at e6
  · rename_i xs
    cases e6
    obtain ⟨v, r, rfl, ⟨a, us, rfl, a1, a2, a3⟩, rfl⟩ := sa
    have hlen : (enumD xs).length = us.length := by
      unfold enumD
      rw [zipD_len, List.length_map, List.length_range, a2.length]
      omega
    refine ⟨a, us, rfl, a1, q _ F1 H1 (fun H => SqL X.K H a us) ok1 st1 ?_ fun Z hz w2 ok2 st2 => a3 Z hz w2 ok2 st2⟩
    rw [hlen]
    refine ⟨walk_enum.goes, walk_enum.stops, fun i H2 x H3 hi g y => ?_⟩
    have y := walk_enum.yields i H2 x H3 hi g y
    obtain ⟨T, u, t, y1, y2, y3, y4, y5⟩ := y
    have hi2 : i < xs.length := by rw [← a2.length]; exact hi
    refine yd_pair (f := fun j => if j < xs.length then some (V.int (j : Nat)) else none) (g := fun j => us[j]?) (fun {j v} h => ?_) (fun {j v} h => a2.getV h) ⟨T, u, t, y1, y2, y3, ?_, y5⟩
    · split at h
      · rename_i hj
        cases h
        exact ⟨.int (j : Nat), by rw [List.getElem?_map, List.getElem?_range hj]; rfl, rfl⟩
      · cases h
    · show (if i < xs.length then some (V.int (i : Nat)) else none) = some u
      rw [if_pos hi2]
      exact y4
  · cases e6
def dRngC (lo c : Int) (n : Nat) : List D := (List.range n).map fun (i : Nat) => PyData.int (lo + (i : Int) * c)
def rngN (i j c : Int) : Nat := (Builtin.Range.rangeSize i j c).toNat
def rngOk (i j c : Int) : Bool := decide (c ≠ 0 ∧ c.natAbs < 1073741824) && (Builtin.Range.small i j c && decide (Builtin.Range.rangeSize i j c = (rngN i j c : Int)))
def mRng3 (ma : MA) : MI := fun ρ => (ma ρ).bind fun p => match p.1 with
  | [.int i, .int j, .int c] => if rngOk i j c = true then some (dRngC i c (rngN i j c), p.2) else none
  | _ => none
end
structure Bt (mg : Str → Option Value) : Prop where
  no : ∀ x, x ∈ bltNames → mg x = none
section
variable {mg : Str → Option Value} (B : Bt mg)
theorem Bt.len (B : Bt mg) : mg "len" = none := B.no _ (by decide +kernel)
theorem Bt.isinstance (B : Bt mg) : mg "isinstance" = none := B.no _ (by decide +kernel)
theorem Bt.int (B : Bt mg) : mg "int" = none := B.no _ (by decide +kernel)
theorem Bt.bool (B : Bt mg) : mg "bool" = none := B.no _ (by decide +kernel)
theorem Bt.str (B : Bt mg) : mg "str" = none := B.no _ (by decide +kernel)
theorem Bt.list (B : Bt mg) : mg "list" = none := B.no _ (by decide +kernel)
theorem Bt.tuple (B : Bt mg) : mg "tuple" = none := B.no _ (by decide +kernel)
theorem Bt.dict (B : Bt mg) : mg "dict" = none := B.no _ (by decide +kernel)
theorem Bt.set (B : Bt mg) : mg "set" = none := B.no _ (by decide +kernel)
theorem Bt.range (B : Bt mg) : mg "range" = none := B.no _ (by decide +kernel)
theorem Bt.zip (B : Bt mg) : mg "zip" = none := B.no _ (by decide +kernel)
theorem Bt.enumerate (B : Bt mg) : mg "enumerate" = none := B.no _ (by decide +kernel)
theorem Bt.all (B : Bt mg) : mg "all" = none := B.no _ (by decide +kernel)
theorem Bt.any (B : Bt mg) : mg "any" = none := B.no _ (by decide +kernel)
theorem Bt.max (B : Bt mg) : mg "max" = none := B.no _ (by decide +kernel)
theorem Bt.min (B : Bt mg) : mg "min" = none := B.no _ (by decide +kernel)
theorem Bt.abs (B : Bt mg) : mg "abs" = none := B.no _ (by decide +kernel)
theorem Bt.sorted (B : Bt mg) : mg "sorted" = none := B.no _ (by decide +kernel)
end
structure FnX (P : Program) (w : World) (K : PySem.W.Frag) (mg : Str → Option Value) (base : Heap) (x : Str) (k : Nat) (ps : List Str) (sp : Sp) : Prop where
  ex : ∃ (f : Addr) (fd : FuncData), FnG P w K mg base CX0 k f fd ps sp ∧ mg x = some (.ref f) ∧ PySem.W.keepIn K (.ref f) = true ∧ Binds K fd ps []
section
variable {X : Cx} {O Oi L : List Kd} {mf : En → Option (D × En)} {r ka kb : Ak} {x : Str} {p pos : Pos} {e a b : Expr} {es : List Expr} {ma : MA} {m mb : M} {ks : List Ak} {j k : Nat} {ps : List Str} {op : List D → Option D}
theorem e_callX (h : FnX X.prog X.w X.K X.mg X.base x k ps (spF X.K Oi mf r)) (hgd : X.A.guards = some []) (hr : Room j X.A) (ha : PA X (e :: es) (tA X.K O ma ks)) (hj : k ≤ j := by decide) (hs : sigOk O ks Oi = true := by rfl) (hln : ks.length + 0 = Oi.length := by rfl) (hnl : noLk Oi = true := by rfl) (n1 : hasO Oi = false := by rfl) (hrr : ∀ i, r ≠ .br i := by exact fun _ z => by cases z)
    (hg : Gl X x := by rfl) (hdb : (x == ("__debug__" : Str)) = false := by decide) (he : starEach (e :: es) X.env = (false, eval e X.env) :: starEach es X.env := by rfl) (hpl : (backTo pos (starEach es X.env)).any (·.1) = false := by rfl) :
    PE X (.Call (.Name x p) (e :: es) [] pos) (tE X.K O (mCall mf ks [] ma) r) := by
  obtain ⟨f, fd, G, h1, h2, h3⟩ := h.ex
  exact e_call G hgd (hr.mono hj) h1 h2 h3 ha hs hln hnl n1 hrr hg hdb he hpl
def dNeg : List D → Option D
  | [.int i] => some (.int (-i))
  | _ => none
theorem s_neg {K : PySem.W.Frag} : LSem K (rL1 (rU fun i => .int (-i))) dNeg .fz := by
  intro F H ds vs d Q s hv ho q
  unfold dNeg at ho
  split at ho
  · cases ho
    obtain ⟨v, rfl, h1⟩ := hv.one
    exact ⟨v, rfl, _, h1, q.now s rfl⟩
  · cases ho
theorem e_all (B : Bt X.mg) (hc : X.calm = true) (ha : PA X [a] (tA X.K O ma ks)) (hg : Gl X "all" := by rfl) (he : starEach [a] X.env = (false, eval a X.env) :: starEach [] X.env := by rfl) (hpl : (backTo pos (starEach [] X.env)).any (·.1) = false := by rfl) : PE X (.Call (.Name "all" p) [a] [] pos) (tE X.K O (mOp ks ma dAll) .fz) :=
  e_blt (cr_all hc) s_all B.all (by decide +kernel) ha hg (by decide) (by decide) he hpl
theorem e_list (B : Bt X.mg) (ha : PA X [a] (tA X.K O ma ks)) (hg : Gl X "list" := by rfl) (he : starEach [a] X.env = (false, eval a X.env) :: starEach [] X.env := by rfl) (hpl : (backTo pos (starEach [] X.env)).any (·.1) = false := by rfl) : PE X (.Call (.Name "list" p) [a] [] pos) (tE X.K O (mOp ks ma dList) .ow) :=
  e_bty call_list_of s_list B.list (by decide +kernel) ha hg (by decide) (by decide) he hpl
end
section
variable {prog : Program} {w : World} {A : Around} {E : Value → Shared → Prop} {s : Shared}
structure MZip (h : Heap) (z p q i j a b : Addr) (m n : Nat) (f0 u v : Value) : Prop where
  zip : IsZip h z p q f0
  its : IsPair h p (.ref i) (.ref j)
  out : IsPair h q u v
  fst : h.IsTupleIter i a m
  snd : h.IsListIter j b n
end
section
variable {X : Cx} {O L : List Kd} {e e2 : Expr} {ma : MA} {ks : List Ak} {p pos tpos : Pos} {elts : List Expr} {kk : Nat}
end
section
variable {K : PySem.W.Frag}
theorem rpA_ints {F : Hp} : ∀ ns : List Int, RpA K F (ns.map PyData.int) (ns.map V.int)
  | [] => rfl
  | n :: ns => ⟨.int n, ns.map V.int, rfl, rfl, rpA_ints ns⟩
theorem law_sp0 {mf : En → Option (D × En)} {o : En} {ns : List Int} {a : Addr} {H : Hp} (e : mf [some (.list (ns.map PyData.int))] = some (.bool true, o)) (hT : ∀ P, P ∈ tabsOf K → LamX.TabS H P qU) (hS : SqL K H a (ns.map V.int)) : spF K [.fz] mf .fz [.ref a] H (fun v _ => v = .bl true) fun _ _ _ => False := by
  have s0 : Same (fun b => if b ∈ tabsOf K then none else H b) H := fun b u h => by
    have h : (if b ∈ tabsOf K then none else H b) = some u := h
    split at h
    · cases h
    · exact h
  have nS : SqL K (fun b => if b ∈ tabsOf K then none else H b) a (ns.map V.int) := by
    rcases hS with hS | hS
    · refine .inl ?_
      have na : a ∉ tabsOf K := fun z => by
        obtain ⟨ps, h, _⟩ := hT a z
        rcases hS with q | ⟨o, q⟩ <;> rw [h] at q <;> cases q
      rcases hS with q | ⟨o, q⟩
      · exact .inl (by show (if a ∈ tabsOf K then none else H a) = _; rw [if_neg na]; exact q)
      · exact .inr ⟨o, by show (if a ∈ tabsOf K then none else H a) = _; rw [if_neg na]; exact q⟩
    · exact .inr hS
  refine ⟨fun b => if b ∈ tabsOf K then none else H b, _, _, o, ⟨s0, rfl, rfl, fun i d h1 h2 => ?_, fun i k d h1 h2 h3 => ?_, fun i j p h1 h2 => ?_, fun e => (by cases e), fun P hP => ⟨hT P hP, if_pos hP⟩⟩, e, fun v F2 H2 _ _ r => r⟩
  · match i with
    | 0 =>
      cases h2
      exact ⟨.ref a, rfl, a, _, rfl, nS, rpA_ints ns⟩
    | i + 1 => cases h2
  · match i with
    | 0 =>
      cases h1
      cases h2
    | i + 1 => cases h3
  · obtain ⟨k, d, g1, g2, g3, g4⟩ := h1
    match i with
    | 0 =>
      cases g1
      cases g2
    | i + 1 => cases g3
end
def flV : D → Option V
  | .none => some .non
  | .bool b => some (.bl b)
  | .int i => some (.int i)
  | .str x => some (.str x)
  | _ => none
def flVs : List D → Option (List V)
  | [] => some []
  | d :: ds => (flV d).bind fun v => (flVs ds).map (v :: ·)
section
variable {K : PySem.W.Frag} {F H : Hp}
theorem flV_rp : ∀ {d : D} {v u : V}, flV d = some v → Vw K F H d u → u = v ∧ flatV v = true
  | .none, _, _, e, h => by cases e; exact ⟨h, rfl⟩
  | .bool _, _, _, e, h => by cases e; exact ⟨h, rfl⟩
  | .int _, _, _, e, h => by cases e; exact ⟨h, rfl⟩
  | .str _, _, _, e, h => by cases e; exact ⟨h, rfl⟩
  | .list _, _, _, e, _ => by cases e
  | .tuple _, _, _, e, _ => by cases e
  | .dict _, _, _, e, _ => by cases e
theorem flV_fz : ∀ {d : D} {v u : V}, flV d = some v → Rp K F d u → u = v ∧ flatV v = true
  | .none, _, _, e, h => by cases e; exact ⟨h, rfl⟩
  | .bool _, _, _, e, h => by cases e; exact ⟨h, rfl⟩
  | .int _, _, _, e, h => by cases e; exact ⟨h, rfl⟩
  | .str _, _, _, e, h => by cases e; exact ⟨h, rfl⟩
  | .list _, _, _, e, _ => by cases e
  | .tuple _, _, _, e, _ => by cases e
  | .dict _, _, _, e, _ => by cases e
theorem flVs_fz : ∀ {ds : List D} {vs us : List V}, flVs ds = some vs → RpA K F ds us → us = vs ∧ vs.all flatV = true
  | [], _, _, e, h => by
    cases e
    exact ⟨h, rfl⟩
  | d :: ds, _, _, e, ⟨u, us, e2, h1, h2⟩ => by
    obtain ⟨v, e3, e4⟩ := bind_some e
    obtain ⟨vs, e5, e6⟩ := map_some e4
    obtain ⟨a, b⟩ := flV_fz e3 h1
    obtain ⟨a2, b2⟩ := flVs_fz e5 h2
    subst e2 e6 a a2
    refine ⟨rfl, ?_⟩
    rw [List.all_cons, b, b2]
    rfl
def inD (neg : Bool) : List D → Option D
  | [x, .list ds] => (flV x).bind fun v => (flVs ds).map fun vs => .bool (if neg then !inV v vs else inV v vs)
  | [x, .tuple ds] => (flV x).bind fun v => (flVs ds).map fun vs => .bool (if neg then !inV v vs else inV v vs)
  | [.str x, .str z] => match x.cps with
    | ⟨[c]⟩ => some (.bool (if neg then !decide (c ∈ z.cps.toList) else decide (c ∈ z.cps.toList)))
    | _ => none
  | _ => none
def dIn := inD false
def dNin := inD true
def rInA (K : PySem.W.Frag) (neg : Bool) : R2 := fun x y H Q => rIn K neg x y H Q ∨ ∃ (c : Nat) (z : Str), x = .str ⟨#[c]⟩ ∧ y = .str z ∧ Q (.bl (if neg then !decide (c ∈ z.cps.toList) else decide (c ∈ z.cps.toList))) H
theorem op_inA {X : Cx} : OpR X (compareOp .In) (rInA X.K false) := fun pins s σ H x y v u Q I rx ry h => by
  rcases h with h | h
  · exact op_in_seq pins s σ H x y v u Q I rx ry h
  · exact op_in_sign pins s σ H x y v u Q I rx ry h
theorem op_ninA {X : Cx} : OpR X (compareOp .NotIn) (rInA X.K true) := fun pins s σ H x y v u Q I rx ry h => by
  rcases h with h | h
  · exact op_notIn_seq pins s σ H x y v u Q I rx ry h
  · exact op_notIn_sign pins s σ H x y v u Q I rx ry h
theorem s_inD {neg : Bool} : LSem K (rL2 (rInA K neg)) (inD neg) .fz := by
  intro F H ds vs d Q s hv ho q
  unfold inD at ho
  split at ho
  · rename_i x es
    obtain ⟨v, u, rfl, h1, a, xs, rfl, h3, h4⟩ := hv.two
    obtain ⟨v', e1, e2⟩ := bind_some ho
    obtain ⟨vs', e3, rfl⟩ := map_some e2
    obtain ⟨rfl, f1⟩ := flV_rp e1 h1
    obtain ⟨rfl, f2⟩ := flVs_fz e3 h4
    exact ⟨_, _, rfl, .inl ⟨a, _, rfl, .inl h3, f1, f2, q.now s rfl⟩⟩
  · rename_i x es
    obtain ⟨v, u, rfl, h1, a, xs, rfl, h3, h4⟩ := hv.two
    obtain ⟨v', e1, e2⟩ := bind_some ho
    obtain ⟨vs', e3, rfl⟩ := map_some e2
    obtain ⟨rfl, f1⟩ := flV_rp e1 h1
    obtain ⟨rfl, f2⟩ := flVs_fz e3 h4
    exact ⟨_, _, rfl, .inl ⟨a, _, rfl, .inr (same_sqt s h3), f1, f2, q.now s rfl⟩⟩
  · rename_i x z
    obtain ⟨v, u, rfl, h1, h3⟩ := hv.two
    have h1 : v = .str x := h1
    have h3 : u = .str z := h3
    subst h1 h3
    split at ho
    · rename_i c e
      cases ho
      refine ⟨_, _, rfl, .inr ⟨c, z, ?_, rfl, q.now s rfl⟩⟩
      obtain ⟨cp⟩ := x
      have e : cp = #[c] := e
      rw [e]
    · cases ho
  · cases ho
theorem s_in : LSem K (rL2 (rInA K false)) dIn .fz := s_inD
theorem s_nin : LSem K (rL2 (rInA K true)) dNin .fz := s_inD
def dInt : List D → Option D
  | [.int i] => some (.int i)
  | [.bool b] => some (.int (if b then 1 else 0))
  | _ => none
def dCatT : List D → Option D
  | [.tuple xs, .tuple ys] => if xs.length + ys.length ≤ 1000000 then some (.tuple (xs ++ ys)) else none
  | _ => none
theorem s_catT : LSem K (rL2 (rCatA K)) dCatT .fz := by
  intro F H ds vs d Q s hv ho q
  unfold dCatT at ho
  split at ho
  · rename_i es fs
    split at ho
    · rename_i hz
      cases ho
      obtain ⟨v, u, rfl, ⟨a, xs, rfl, h1, h2⟩, b, ys, rfl, h3, h4⟩ := hv.two
      have l1 := h2.length
      have l2 := h4.length
      refine ⟨_, _, rfl, a, b, xs, ys, rfl, rfl, same_sqt s h1, same_sqt s h3, by rw [l1, l2]; exact Nat.le_trans hz (by decide), fun e => ?_, fun _ e => ?_, fun _ _ => Post.tup s q (h2.append h4)⟩
      · have : es = [] := by
          rw [e] at l1
          exact List.length_eq_zero_iff.mp l1.symm
        subst this
        exact q.now s ⟨b, ys, rfl, h3, h4⟩
      · have : fs = [] := by
          rw [e] at l2
          exact List.length_eq_zero_iff.mp l2.symm
        subst this
        refine q.now s ?_
        rw [List.append_nil]
        exact ⟨a, xs, rfl, h1, h2⟩
    · cases ho
  · cases ho
def dAddS : List D → Option D
  | [.str x, .str y] => if x.length + y.length ≤ 100000 then some (.str (x ++ y)) else none
  | _ => none
theorem s_addS : LSem K (rL2 fun x y H Q => ∃ i j, x = .str i ∧ y = .str j ∧ i.length + j.length ≤ sizeLine ∧ Q (.str (i ++ j)) H) dAddS .fz := by
  intro F H ds vs d Q s hv ho q
  unfold dAddS at ho
  split at ho
  · rename_i x y
    split at ho
    · rename_i hz
      cases ho
      obtain ⟨v, u, rfl, h1, h3⟩ := hv.two
      have h1 : v = .str x := h1
      have h3 : u = .str y := h3
      subst h1 h3
      exact ⟨_, _, rfl, x, y, rfl, rfl, Nat.le_trans hz (by decide), q.now s rfl⟩
    · cases ho
  · cases ho
def dKey : D → Option Key
  | .int i => some (.inl i)
  | .str x => some (.inr x)
  | _ => none
theorem dKey_kD : ∀ k : Key, dKey (kD k) = some k
  | .inl _ => rfl
  | .inr _ => rfl
theorem dKey_rp : ∀ {d : D} {k : Key} {u : V}, dKey d = some k → Vw K F H d u → u = kV k
  | .none, _, _, e, _ => by cases e
  | .bool _, _, _, e, _ => by cases e
  | .int _, _, _, e, h => by cases e; exact h
  | .str _, _, _, e, h => by cases e; exact h
  | .list _, _, _, e, _ => by cases e
  | .tuple _, _, _, e, _ => by cases e
  | .dict _, _, _, e, _ => by cases e
def getD' (k : Key) : List (D × D) → Option D
  | [] => none
  | (a, b) :: r => if dKey a = some k then some b else getD' k r
theorem getD_rp {k : Key} : ∀ {kvs : List (D × D)} {vs : List (Key × V)}, RpD K F kvs vs → (getD' k kvs = none ∧ valV vs k = none) ∨ ∃ d v, getD' k kvs = some d ∧ valV vs k = some v ∧ Rp K F d v
  | [], vs, h => by
    have h : vs = [] := h
    subst h
    exact .inl ⟨rfl, rfl⟩
  | (a, b) :: r, vs, ⟨q, v, vr, e1, e2, h1, h2⟩ => by
    subst e1 e2
    by_cases e : q = k
    · subst e
      refine .inr ⟨b, v, ?_, valV_pos rfl, h1⟩
      show (if dKey (kD q) = some q then _ else _) = _
      rw [if_pos (dKey_kD q)]
    · have e2 : dKey (kD q) ≠ some k := by
        rw [dKey_kD]
        exact fun z => e (Option.some.inj z)
      rcases getD_rp (k := k) h2 with ⟨a1, a2⟩ | ⟨d, v', a1, a2, a3⟩
      · refine .inl ⟨?_, by rw [valV_neg e]; exact a2⟩
        show (if dKey (kD q) = some k then _ else _) = _
        rw [if_neg e2]
        exact a1
      · refine .inr ⟨d, v', ?_, by rw [valV_neg e]; exact a2, a3⟩
        show (if dKey (kD q) = some k then _ else _) = _
        rw [if_neg e2]
        exact a1
def dDget : List D → Option D
  | [.dict kvs, x] => gob kvs ((dKey x).bind fun k => getD' k kvs)
  | _ => none
def rDGet : R2 := fun x y H Q => ∃ a v, x = .ref a ∧ DGet H a y (some v) ∧ Q v H
theorem s_dget : LSem K (rL2 rDGet) dDget .fz := by
  intro F H ds vs d Q s hv ho q
  unfold dDget at ho
  split at ho
  · rename_i kvs x
    obtain ⟨n0, ho⟩ := gob_some ho
    obtain ⟨k, e1, e2⟩ := bind_some ho
    obtain ⟨v, u, rfl, h0, h3⟩ := hv.two
    obtain ⟨a, ws, rfl, h1, h2⟩ := noRpO n0 h0
    have := dKey_rp e1 h3
    subst this
    rcases getD_rp (k := k) h2 with ⟨a1, a2⟩ | ⟨d', v', a1, a2, a3⟩
    · rw [a1] at e2
      cases e2
    · rw [a1] at e2
      cases e2
      exact ⟨_, _, rfl, a, v', rfl, .inl ⟨ws, k, h1, rfl, a2.symm⟩, q.now s a3⟩
  · cases ho
def dDin (neg : Bool) : List D → Option D
  | [x, .dict kvs] => gob kvs ((dKey x).map fun k => .bool (if neg then !(getD' k kvs).isSome else (getD' k kvs).isSome))
  | _ => none
def rDIn (neg : Bool) : R2 := fun y x H Q => ∃ a o, x = .ref a ∧ DGet H a y o ∧ Q (.bl (if neg then !o.isSome else o.isSome)) H
theorem s_din {neg : Bool} : LSem K (rL2 (rDIn neg)) (dDin neg) .fz := by
  intro F H ds vs d Q s hv ho q
  unfold dDin at ho
  split at ho
  · rename_i x kvs
    obtain ⟨n0, ho⟩ := gob_some ho
    obtain ⟨k, e1, rfl⟩ := map_some ho
    obtain ⟨v, u, rfl, h3, h0⟩ := hv.two
    obtain ⟨a, ws, rfl, h1, h2⟩ := noRpO n0 h0
    have := dKey_rp e1 h3
    subst this
    refine ⟨_, _, rfl, a, valV ws k, rfl, .inl ⟨ws, k, h1, rfl, rfl⟩, ?_⟩
    have e3 : (valV ws k).isSome = (getD' k kvs).isSome := by
      rcases getD_rp (k := k) h2 with ⟨a1, a2⟩ | ⟨d', v', a1, a2, a3⟩
      · rw [a1, a2]
        rfl
      · rw [a1, a2]
        rfl
    rw [e3]
    exact q.now s rfl
  · cases ho
end
section
variable {X : Cx} {O : List Kd} {ka kb : Ak} {p pos : Pos} {e a b : Expr} {ma : MA} {m mb : M} {ks : List Ak}
end
def showOk (d : D) : Bool := d.showable && !d.hasDict && decide (d.depth ≤ 60) && decide (d.shown.length ≤ 100000)
def dShow : List D → Option D
  | [.list ds] => if showOk (.list ds) = true then some (.str (PyData.shown (.list ds))) else none
  | [.tuple ds] => if showOk (.tuple ds) = true then some (.str (PyData.shown (.tuple ds))) else none
  | [.str x] => if x.length ≤ 100000 then some (.str x) else none
  | [.int i] => if i.natAbs.log2 < 1920 then some (.str (Str.ofString (toString i))) else none
  | [.bool b] => some (.str (if b then ("True" : Str) else "False"))
  | [.none] => some (.str "None")
  | _ => none
def rShow (K : PySem.W.Frag) : V → Hp → VK → Prop := fun x H Q => (∃ a d, x = .ref a ∧ Dp K H x d ∧ showOk d = true ∧ Q (.str d.shown) H) ∨ (∃ y : Str, x = .str y ∧ y.length ≤ 100000 ∧ Q (.str y) H) ∨ (∃ i : Int, x = .int i ∧ i.natAbs.log2 < 1920 ∧ Q (.str (Str.ofString (toString i))) H) ∨ (∃ b : Bool, x = .bl b ∧ Q (.str (if b then ("True" : Str) else "False")) H) ∨ (x = .non ∧ Q (.str "None") H)
theorem s_show {K : PySem.W.Frag} : LSem K (rL1 (rShow K)) dShow .fz := by
  intro F H ds vs d Q s hv ho q
  unfold dShow at ho
  split at ho
  · split at ho
    · rename_i es hs
      cases ho
      obtain ⟨v, rfl, h1⟩ := hv.one
      have hd : (PyData.list es).hasDict = false := by
        unfold showOk at hs
        simp only [Bool.and_eq_true, Bool.not_eq_true'] at hs
        exact hs.1.1.2
      have dp := h1.dp s hd
      obtain ⟨a, xs, rfl, _⟩ := h1
      exact ⟨_, rfl, .inl ⟨a, _, rfl, dp, hs, q.now s rfl⟩⟩
    · cases ho
  · split at ho
    · rename_i es hs
      cases ho
      obtain ⟨v, rfl, h1⟩ := hv.one
      have hd : (PyData.tuple es).hasDict = false := by
        unfold showOk at hs
        simp only [Bool.and_eq_true, Bool.not_eq_true'] at hs
        exact hs.1.1.2
      have dp := h1.dp s hd
      obtain ⟨a, xs, rfl, _⟩ := h1
      exact ⟨_, rfl, .inl ⟨a, _, rfl, dp, hs, q.now s rfl⟩⟩
    · cases ho
  · split at ho
    · rename_i y hs
      cases ho
      obtain ⟨v, rfl, h1⟩ := hv.one
      have h1 : v = .str y := h1
      subst h1
      exact ⟨_, rfl, .inr (.inl ⟨y, rfl, hs, q.now s rfl⟩)⟩
    · cases ho
  · split at ho
    · rename_i i hs
      cases ho
      obtain ⟨v, rfl, h1⟩ := hv.one
      have h1 : v = .int i := h1
      subst h1
      exact ⟨_, rfl, .inr (.inr (.inl ⟨i, rfl, hs, q.now s rfl⟩))⟩
    · cases ho
  · rename_i b
    cases ho
    obtain ⟨v, rfl, h1⟩ := hv.one
    have h1 : v = .bl b := h1
    subst h1
    exact ⟨_, rfl, .inr (.inr (.inr (.inl ⟨b, rfl, q.now s rfl⟩)))⟩
  · cases ho
    obtain ⟨v, rfl, h1⟩ := hv.one
    have h1 : v = .non := h1
    subst h1
    exact ⟨_, rfl, .inr (.inr (.inr (.inr ⟨rfl, q.now s rfl⟩)))⟩
  · cases ho
section
variable {X : Cx} {O : List Kd} {ka : Ak} {p pos : Pos} {e : Expr} {m : M}
theorem e_show (hgd : X.A.guards = some []) (hu : X.A.units + 65 < cLine) (he : PE X e (tE X.K O m ka)) : PE X (.JoinedStr [.FormattedValue e (-1) none p] pos) (tE X.K O (m1 ka m dShow) .fz) := by
  refine pe_joined1 (PEi (t := tUn (rShow X.K) (tE X.K O m ka)) ⟨fun pins s σ H Q I h => ?_⟩ fun _ _ _ h => tUn_of s_show h)
  refine wpAny_FormattedValue_plain (thn (he.run pins s σ H _ I h) fun u s1 hv => ?_)
  obtain ⟨x, H1, I1, r1, hx⟩ := hv
  rcases hx with ⟨a, d, rfl, dp, hs, q⟩ | ⟨y, rfl, hs, q⟩ | ⟨i, rfl, hs, q⟩ | ⟨b, rfl, q⟩ | ⟨rfl, q⟩
  rotate_left
  · obtain ⟨t, rfl⟩ := r1
    exact wpAny_formatField_str ⟨.str y, H1, I1, ⟨t, rfl⟩, q⟩ ⟨.str y, H1, I1.tok _, ⟨_, rfl⟩, q⟩ (Nat.le_trans hs (by decide))
  · obtain ⟨t, rfl⟩ := r1
    exact wpAny_formatField_int hs ⟨.str (Str.ofString (toString i)), H1, I1.tok _, ⟨_, rfl⟩, q⟩
  · have r1 : u = Value.bool b := r1
    subst r1
    exact wpAny_formatField_bool ⟨.str (if b then ("True" : Str) else "False"), H1, I1.tok _, ⟨_, rfl⟩, q⟩
  · have r1 : u = Value.none := r1
    subst r1
    exact wpAny_formatField_none ⟨.str "None", H1, I1.tok _, ⟨_, rfl⟩, q⟩
  obtain ⟨as, rd⟩ := Dp.reads I1 d _ u dp r1
  have hua : u = Value.ref a := r1
  subst hua
  unfold showOk at hs
  simp only [Bool.and_eq_true, Bool.not_eq_true', decide_eq_true_eq] at hs
  obtain ⟨⟨⟨h1, h2⟩, h3⟩, h4⟩ := hs
  exact formatField_of_reads rd h1 (fun z => by rw [h2] at z; cases z) hgd (by omega) (fun _ _ z => z) (fun h' u tk hk => ⟨.str d.shown, H1, I1.kept (t' := tk) hk, ⟨u, rfl⟩, q⟩) (Nat.le_trans h4 (by decide))
end
structure GTup (K : PySem.W.Frag) (mg : Str → Option Value) (x : Str) (ds : List D) : Prop where
  ex : ∃ (a : Addr) (vs : List V), mg x = some (.ref a) ∧ (∀ H : Hp, SqT K H a vs) ∧ ∀ F : Hp, RpA K F ds vs
def hasD' (k : Key) (kvs : List (D × D)) : Bool := kvs.any fun p => decide (dKey p.1 = some k)
def putD' (k : Key) (v : D) (kvs : List (D × D)) : List (D × D) := if hasD' k kvs = true then kvs.map (fun p => if dKey p.1 = some k then (p.1, v) else p) else kvs ++ [(kD k, v)]
section
variable {K : PySem.W.Frag} {F : Hp}
theorem RpD.length : ∀ {kvs : List (D × D)} {vs : List (Key × V)}, RpD K F kvs vs → vs.length = kvs.length
  | [], _, h => by
    rw [show _ = [] from h]
    rfl
  | (_, _) :: r, _, ⟨_, _, _, e, _, _, h⟩ => by
    rw [e, List.length_cons, List.length_cons, RpD.length h]
theorem RpD.any {k : Key} : ∀ {kvs : List (D × D)} {vs : List (Key × V)}, RpD K F kvs vs → (vs.any fun kv => decide (kv.1 = k)) = hasD' k kvs
  | [], _, h => by
    rw [show _ = [] from h]
    rfl
  | (_, _) :: r, _, ⟨q, v, vr, e, e2, h1, h⟩ => by
    subst e e2
    unfold hasD'
    rw [List.any_cons, List.any_cons]
    have z : decide (q = k) = decide (dKey (kD q) = some k) := by
      rw [dKey_kD]
      exact decide_eq_decide.mpr ⟨fun e => by rw [e], fun e => Option.some.inj e⟩
    have ih := RpD.any (k := k) h
    unfold hasD' at ih
    rw [ih]
    dsimp only
    rw [z]
theorem RpD.repl {k : Key} {d : D} {v : V} (hd : Rp K F d v) : ∀ {kvs : List (D × D)} {vs : List (Key × V)}, RpD K F kvs vs → RpD K F (kvs.map fun p => if dKey p.1 = some k then (p.1, d) else p) (vs.map fun kv => if kv.1 = k then (kv.1, v) else kv)
  | [], _, h => by
    rw [show _ = [] from h]
    rfl
  | (_, b) :: r, _, ⟨q, u, vr, e, e2, h1, h⟩ => by
    subst e e2
    have ih := RpD.repl (k := k) hd h
    rw [List.map_cons, List.map_cons]
    by_cases e : q = k
    · subst e
      rw [if_pos (dKey_kD q), if_pos rfl]
      exact ⟨q, v, _, rfl, rfl, hd, ih⟩
    · rw [if_neg (fun z => e (Option.some.inj ((dKey_kD q).symm.trans z))), if_neg e]
      exact ⟨q, u, _, rfl, rfl, h1, ih⟩
theorem RpD.snoc {k : Key} {d : D} {v : V} (hd : Rp K F d v) : ∀ {kvs : List (D × D)} {vs : List (Key × V)}, RpD K F kvs vs → RpD K F (kvs ++ [(kD k, d)]) (vs ++ [(k, v)])
  | [], _, h => by
    rw [show _ = [] from h]
    exact ⟨k, v, [], rfl, rfl, hd, rfl⟩
  | (_, b) :: r, _, ⟨q, u, vr, e, e2, h1, h⟩ => by
    subst e e2
    exact ⟨q, u, _, rfl, rfl, h1, RpD.snoc hd h⟩
theorem RpD.put {k : Key} {d : D} {v : V} (hd : Rp K F d v) {kvs : List (D × D)} {vs : List (Key × V)} (h : RpD K F kvs vs) : RpD K F (putD' k d kvs) (putK vs k v) := by
  unfold putD' putK
  rw [h.any]
  split
  · exact h.repl hd
  · exact h.snoc hd
end
section
variable {X : Cx} {O : List Kd} {pos : Pos} {e : Expr}
end
section
variable {X : Cx} {O : List Kd} {x f : Str} {p pos : Pos}
structure ClsF (K : PySem.W.Frag) (c f : Str) : Prop where
  cls : Cls K (He.ga K c)
  no : NoAttr K (He.ga K c) f
end
theorem keys_put {as : List Str} {fs : List (Str × V)} {f : Str} {v : V} (hf : f ∈ as) (h : KeysOk as fs) : KeysOk as (putF f v fs) := by
  have mem : ∀ (fs : List (Str × V)) (g : Str), g ∈ (putF f v fs).map (·.1) → g = f ∨ g ∈ fs.map (·.1) := fun fs => by
    induction fs with
    | nil =>
      intro g hg
      have hg : g ∈ [f] := hg
      exact .inl (List.mem_singleton.mp hg)
    | cons a r ih =>
      intro g hg
      obtain ⟨k, x⟩ := a
      rw [show putF f v ((k, x) :: r) = (if k = f then (k, v) :: r else (k, x) :: putF f v r) from rfl] at hg
      by_cases hk : k = f
      · rw [if_pos hk] at hg
        exact .inr hg
      · rw [if_neg hk] at hg
        rcases List.mem_cons.mp (show g ∈ k :: (putF f v r).map (·.1) from hg) with z | z
        · exact .inr (by rw [z]; exact List.mem_cons_self)
        · rcases ih g z with z | z
          · exact .inl z
          · exact .inr (List.mem_cons_of_mem _ z)
  have nd : ∀ fs : List (Str × V), (fs.map (·.1)).Nodup → ((putF f v fs).map (·.1)).Nodup := fun fs => by
    induction fs with
    | nil =>
      intro _
      exact List.nodup_cons.mpr ⟨fun z => (by cases z), List.nodup_nil⟩
    | cons a r ih =>
      intro hn
      obtain ⟨k, x⟩ := a
      obtain ⟨n1, n2⟩ := List.nodup_cons.mp (show (k :: r.map (·.1)).Nodup from hn)
      rw [show putF f v ((k, x) :: r) = (if k = f then (k, v) :: r else (k, x) :: putF f v r) from rfl]
      by_cases hk : k = f
      · rw [if_pos hk]
        exact hn
      · rw [if_neg hk]
        refine List.nodup_cons.mpr ⟨fun z => ?_, ih n2⟩
        rcases mem r _ z with z | z
        · exact hk z
        · exact n1 z
  refine ⟨nd fs h.1, fun g hg => ?_⟩
  rcases mem fs g hg with z | z
  · rw [z]
    exact hf
  · exact h.2 g z
theorem nodup_len : ∀ {as bs : List Str}, as.Nodup → (∀ a, a ∈ as → a ∈ bs) → as.length ≤ bs.length
  | [], _, _, _ => Nat.zero_le _
  | a :: as, bs, h, m => by
    obtain ⟨n1, n2⟩ := List.nodup_cons.mp h
    have ha : a ∈ bs := m a List.mem_cons_self
    have ih := nodup_len (bs := bs.erase a) n2 fun b hb => (List.mem_erase_of_ne fun z => n1 (by rw [← z]; exact hb)).mpr (m b (List.mem_cons_of_mem _ hb))
    rw [List.length_erase_of_mem ha] at ih
    have : 0 < bs.length := List.length_pos_of_mem ha
    rw [List.length_cons]
    omega
theorem KeysOk.len {as : List Str} {fs : List (Str × V)} (h : KeysOk as fs) : fs.length ≤ as.length := by
  have := nodup_len h.1 h.2
  rw [List.length_map] at this
  exact this
theorem KeysOk.non {as : List Str} {fs : List (Str × V)} (h : KeysOk as fs) {m : Str} (hm : m ∉ as) : fs.lookup m = none := by
  cases e : fs.lookup m with
  | none => rfl
  | some v => exact (hm (h.2 m (List.mem_map.mpr ⟨(m, v), PySem.mem_of_lookup e, rfl⟩))).elim
section
variable {K : PySem.W.Frag} {O : List Kd} {w : Wd} {i : Nat} {f : Str} {C dx : Addr} {fs : List (Str × V)} {v : V} {d : D}
theorem ObOk.store {w' : Wd} (h : ObOk K O w) (e : w.H (ob O w.σ) = some (.ins C dx fs)) (hf : f ∈ ats O) (e1 : w'.σ = w.σ) (e2 : w'.H = upd w.H (ob O w.σ) (.ins C dx (putF f v fs))) (e3 : w'.F = w.F) (nf : ¬ Fp O w' (ob O w.σ)) : ObOk K O w' := by
  have eo : ob O w'.σ = ob O w.σ := by rw [e1]
  obtain ⟨a0, a1, ⟨C', dx', fs', a2, a3⟩, a4, _, a6⟩ := h
  rw [e] at a2
  cases a2
  have hd : dx ≠ ob O w.σ := fun z => by
    rw [z, e] at a3
    cases a3
  refine ⟨by rw [eo, e1]; exact a0, a1, ⟨C, dx, putF f v fs, by rw [eo, e2, upd_same], by rw [eo, e2, upd_ne hd]; exact a3⟩, by rw [eo, e3]; exact a4, by rw [eo]; exact nf, fun C' dx' fs' z => ?_⟩
  rw [eo, e2, upd_same] at z
  cases z
  obtain ⟨b1, b2⟩ := a6 C dx fs e
  exact ⟨b1, keys_put hf b2⟩
end
section
variable {X : Cx} {O : List Kd} {x f : Str} {p pos pos' : Pos} {e : Expr} {m : M} {r : Ak}
end
structure StpB (b : Bool) (O : List Kd) (w w' : Wd) : Prop extends StpS O w w' where
  ostB : b = true → hasO O = true → w'.H (ob O w.σ) = w.H (ob O w.σ)
section
variable {X : Cx} {O : List Kd} {e a b : Expr} {m : M} {k : Ak} {ta tb : MT} {r : Ak} {pos : Pos} {rest : List Expr} {ma mb : MS} {body : List Stmt} {x : Str} {i : Nat}
end
structure MShape (Oi Ol Ob : List Kd) : Prop where
  hi : hasO Oi = true
  hb : hasO Ob = true
  ea : ats Ob = ats Oi
  ec : cn Ob = cn Oi
  o1 : oi Oi = 0
  o2 : oi Ob = 0
  en : nl Ob = nl Oi + Ol.length
  eq : Ob = Oi.take (nl Oi) ++ (Ol ++ Oi.drop (nl Oi))
  np : ∀ (i : Nat) (k : Kd), Oi[i]? = some k → k.pin = false
  ps : 0 < nl Oi
  le : nl Oi ≤ Oi.length
theorem npl {k : Kd} (h : k.pin = false) : k.lock = false := by
  cases k <;> first | rfl | cases h
def upM (n c i : Nat) : Nat := if i < n then i else i + c
def entM (n c : Nat) (ρ : En) : En := ρ.take n ++ (List.replicate c none ++ ρ.drop n)
def outM (n c : Nat) (ρ : En) : En := List.replicate n none ++ ρ.drop (n + c)
section
variable {K : PySem.W.Frag} {Oi Ol Ob : List Kd} {F H : Hp} {σ σl : L2.St} {ρ : En}
theorem MShape.get (S : MShape Oi Ol Ob) (i : Nat) : Ob[upM (nl Oi) Ol.length i]? = Oi[i]? := by
  have lt : (Oi.take (nl Oi)).length = nl Oi := by rw [List.length_take]; exact Nat.min_eq_left S.le
  rw [S.eq]
  unfold upM
  by_cases h : i < nl Oi
  · rw [if_pos h, List.getElem?_append_left (by omega), List.getElem?_take_of_lt h]
  · rw [if_neg h, List.getElem?_append_right (by omega), List.getElem?_append_right (by omega), List.getElem?_drop, lt]
    congr 1
    omega
theorem entM_get {n c : Nat} (hn : n ≤ ρ.length) (i : Nat) : (entM n c ρ)[upM n c i]? = ρ[i]? := by
  have lt : (ρ.take n).length = n := by rw [List.length_take]; exact Nat.min_eq_left hn
  unfold entM upM
  by_cases h : i < n
  · rw [if_pos h, List.getElem?_append_left (by omega), List.getElem?_take_of_lt h]
  · rw [if_neg h, List.getElem?_append_right (by omega), List.getElem?_append_right (by rw [List.length_replicate]; omega), List.getElem?_drop, List.length_replicate, lt]
    congr 1
    omega
theorem entM_loc {n c : Nat} (hn : n ≤ ρ.length) {i : Nat} (h1 : n ≤ i) (h2 : i < n + c) : (entM n c ρ)[i]? = some none := by
  have lt : (ρ.take n).length = n := by rw [List.length_take]; exact Nat.min_eq_left hn
  unfold entM
  rw [List.getElem?_append_right (by omega), List.getElem?_append_left (by rw [List.length_replicate]; omega), List.getElem?_replicate, if_pos (by omega)]
theorem upM_cases (n c i : Nat) : (∃ j, i = upM n c j) ∨ (n ≤ i ∧ i < n + c) := by
  by_cases h : i < n
  · exact .inl ⟨i, by unfold upM; rw [if_pos h]⟩
  · by_cases h2 : i < n + c
    · exact .inr ⟨by omega, h2⟩
    · exact .inl ⟨i - c, by unfold upM; rw [if_neg (by omega)]; omega⟩
theorem upM_inj {n c i j : Nat} (h : upM n c i = upM n c j) : i = j := by
  unfold upM at h
  split at h <;> split at h <;> omega
theorem MShape.gob (S : MShape Oi Ol Ob) (h : σ.length = nl Oi) : ob Ob (σ ++ σl) = ob Oi σ := by
  unfold ob
  rw [S.o1, S.o2, List.getElem?_append_left (by have := S.ps; omega)]
theorem MShape.gsv (S : MShape Oi Ol Ob) (h : σ.length = nl Oi) (i : Nat) : sv Ob H (σ ++ σl) (upM (nl Oi) Ol.length i) = sv Oi H σ i := by
  unfold upM
  by_cases z : i < nl Oi
  · rw [if_pos z, sv_loc (by rw [S.en]; omega), sv_loc z, List.getElem?_append_left (by omega)]
  · rw [if_neg z]
    unfold sv
    rw [if_neg (by rw [S.en]; omega), if_neg z, S.ea, S.en, S.gob h, show i + Ol.length - (nl Oi + Ol.length) = i - nl Oi by omega]
theorem MShape.gown (S : MShape Oi Ol Ob) (ok : Ok K Oi ⟨F, H, σ, ρ⟩) {F' : Hp} {i : Nat} {p : Addr} : OwnAt Ob ⟨F', H, σ ++ σl, entM (nl Oi) Ol.length ρ⟩ i p ↔ ∃ j, i = upM (nl Oi) Ol.length j ∧ OwnAt Oi ⟨F, H, σ, ρ⟩ j p := by
  have hs : σ.length = nl Oi := ok.ls
  have hr : nl Oi ≤ ρ.length := by rw [show ρ.length = Oi.length from ok.lr]; exact S.le
  constructor
  · rintro ⟨k, d, h1, h2, h3, h4⟩
    have h3 : (entM (nl Oi) Ol.length ρ)[i]? = some (some d) := h3
    rcases upM_cases (nl Oi) Ol.length i with ⟨j, e⟩ | ⟨e1, e2⟩
    · subst e
      rw [S.get] at h1
      rw [entM_get hr] at h3
      exact ⟨j, rfl, k, d, h1, h2, h3, (S.gsv hs j).symm.trans h4⟩
    · rw [entM_loc hr e1 e2] at h3
      cases h3
  · rintro ⟨j, rfl, k, d, h1, h2, h3, h4⟩
    exact ⟨k, d, (S.get j).trans h1, h2, (entM_get hr j).trans h3, (S.gsv hs j).trans h4⟩
theorem MShape.gfp (S : MShape Oi Ol Ob) (ok : Ok K Oi ⟨F, H, σ, ρ⟩) {F' : Hp} {p : Addr} : Fp Ob ⟨F', H, σ ++ σl, entM (nl Oi) Ol.length ρ⟩ p ↔ Fp Oi ⟨F, H, σ, ρ⟩ p :=
  ⟨fun ⟨i, h⟩ => by
    obtain ⟨j, _, h⟩ := (S.gown ok).mp h
    exact ⟨j, h⟩, fun ⟨j, h⟩ => ⟨_, (S.gown ok).mpr ⟨j, rfl, h⟩⟩⟩
theorem outM_get {n c : Nat} {i : Nat} {d : D} (h : (outM n c ρ)[i]? = some (some d)) : n ≤ i ∧ ρ[upM n c i]? = some (some d) := by
  unfold outM at h
  by_cases z : i < n
  · rw [List.getElem?_append_left (by rw [List.length_replicate]; exact z), List.getElem?_replicate, if_pos z] at h
    cases h
  · rw [List.getElem?_append_right (by rw [List.length_replicate]; omega), List.getElem?_drop, List.length_replicate] at h
    refine ⟨by omega, ?_⟩
    unfold upM
    rw [if_neg z]
    rw [show n + c + (i - n) = i + c by omega] at h
    exact h
theorem MShape.ext (S : MShape Oi Ol Ob) {σ' : L2.St} {F' H' : Hp} {ρ' : En} {r : Ak} {d : D} {v : V} {b : Bool} (hσ : σl.length = Ol.length) (hr : ∀ i, r ≠ .br i) (ok : Ok K Oi ⟨F, H, σ, ρ⟩) (ok' : Ok K Ob ⟨F', H', σ', ρ'⟩)
    (st : StpB b Ob ⟨F, H, σ ++ σl, entM (nl Oi) Ol.length ρ⟩ ⟨F', H', σ', ρ'⟩) (rs : Rs K Ob ⟨F, H, σ ++ σl, entM (nl Oi) Ol.length ρ⟩ ⟨F', H', σ', ρ'⟩ r d v) :
    Ok K Oi ⟨F', H', σ, outM (nl Oi) Ol.length ρ'⟩ ∧ StpB b Oi ⟨F, H, σ, ρ⟩ ⟨F', H', σ, outM (nl Oi) Ol.length ρ'⟩ ∧ Rs K Oi ⟨F, H, σ, ρ⟩ ⟨F', H', σ, outM (nl Oi) Ol.length ρ'⟩ r d v := by
  have hs : σ.length = nl Oi := ok.ls
  have hl : ρ.length = Oi.length := ok.lr
  have hl' : ρ'.length = Ob.length := ok'.lr
  have eo : ob Ob (σ ++ σl) = ob Oi σ := S.gob hs
  have eo' : ob Ob σ' = ob Oi σ := (st.o0 S.hb).1.trans eo
  have fp : ∀ {p : Addr}, Fp Ob ⟨F, H, σ ++ σl, entM (nl Oi) Ol.length ρ⟩ p ↔ Fp Oi ⟨F, H, σ, ρ⟩ p := fun {p} => S.gfp ok
  have lb : Ob.length = Oi.length + Ol.length := by
    rw [congrArg List.length S.eq, List.length_append, List.length_append, List.length_take, List.length_drop, Nat.min_eq_left S.le]
    have := S.le
    omega
  -- attributes as they are
  have svA : ∀ {j : Nat}, nl Oi ≤ j → sv Ob H' σ' (upM (nl Oi) Ol.length j) = sv Oi H' σ j := fun {j} hj => by
    unfold upM
    rw [if_neg (by omega)]
    unfold sv
    rw [if_neg (by rw [S.en]; omega), if_neg (by omega), S.ea, S.en, eo', show j + Ol.length - (nl Oi + Ol.length) = j - nl Oi by omega]
  have back : ∀ {j : Nat} {p : Addr}, OwnAt Oi ⟨F', H', σ, outM (nl Oi) Ol.length ρ'⟩ j p → OwnAt Ob ⟨F', H', σ', ρ'⟩ (upM (nl Oi) Ol.length j) p := fun {j p} ⟨k, d', h1, h2, h3, h4⟩ => by
    obtain ⟨g1, g2⟩ := outM_get h3
    exact ⟨k, d', (S.get j).trans h1, h2, g2, (svA g1).trans h4⟩
  have fpb : ∀ {p : Addr}, Fp Oi ⟨F', H', σ, outM (nl Oi) Ol.length ρ'⟩ p → Fp Ob ⟨F', H', σ', ρ'⟩ p := fun ⟨j, h⟩ => ⟨_, back h⟩
  have bo := ok.obj S.hi
  have bo' := ok'.obj S.hb
  have okO : Ok K Oi ⟨F', H', σ, outM (nl Oi) Ol.length ρ'⟩ := by
    refine ⟨ok'.sub, ok.ls, ?_, fun j d' h1 h2 => ?_, fun j k d' h1 h2 h3 => ?_, fun i j p h1 h2 => upM_inj (ok'.ap _ _ p (back h1) (back h2)), fun _ => ?_, ok'.tb⟩
    · show (outM _ _ ρ').length = _
      unfold outM
      rw [List.length_append, List.length_replicate, List.length_drop, hl', lb]
      have := S.le
      omega
    · obtain ⟨g1, g2⟩ := outM_get h2
      obtain ⟨u, g3, g4⟩ := ok'.fz _ d' ((S.get j).trans h1) g2
      exact ⟨u, (svA g1).symm.trans g3, g4⟩
    · obtain ⟨g1, g2⟩ := outM_get h3
      obtain ⟨p, g3, g4⟩ := ok'.ow _ k d' ((S.get j).trans h1) h2 g2
      exact ⟨p, (svA g1).symm.trans g3, g4⟩
    · obtain ⟨a0, a1, ⟨C, dx, fs, a2, a3⟩, a4, a5, a6⟩ := bo'
      rw [eo'] at a2 a3 a4 a5 a6
      rw [S.ec, S.ea] at a6
      exact ⟨bo.at0, bo.n0, ⟨C, dx, fs, a2, a3⟩, a4, fun z => a5 (fpb z), a6⟩
  refine ⟨okO, ⟨⟨st.ex, fun p o h z y => st.kp p o h (fun q => z (fp.mp q)) (fun _ => by rw [eo]; exact y S.hi), fun p o h z f => st.nw p o h (fun q => z (fp.mp q)) f, fun p h => ?_, fun j k h1 h2 => ?_, fun j k h1 h2 => ?_, fun j k p d' h1 h2 => ?_, fun _ => ⟨rfl, fun z => ?_⟩, st.tb⟩, fun hb _ => ?_⟩, ?_⟩
  · rcases st.fp p (fpb h) with q | q
    · exact .inl (fp.mp q)
    · exact .inr q
  · rw [S.np j k h1] at h2
    cases h2
  · rw [npl (S.np j k h1)] at h2
    cases h2
  · rw [npl (S.np j k h1)] at h2
    cases h2
  · have y := (st.o0 S.hb).2
    rw [eo] at y
    exact y z
  · have y := st.ostB hb S.hb
    rw [eo] at y
    exact y
  · cases r with
    | fz => exact rs
    | ow =>
      obtain ⟨p, e, g1, g2, g3, g4, g5⟩ := rs
      refine ⟨p, e, g1, g2, fun z => g3 (fpb z), ?_, fun _ => ?_⟩
      · rcases g4 with z | z
        · exact .inl (fp.mp z)
        · exact .inr z
      · have g5 := g5 S.hb
        rw [eo'] at g5
        exact g5
    | br i => exact (hr i rfl).elim
end
section
variable {X : Cx} {O : List Kd} {e : Expr} {m : M} {ms : MS} {r : Ak} {pos : Pos} {body : List Stmt}
end
def mMet (n c : Nat) (r : Ak) (b : MS) : En → Option (D × En) := fun ρ => (b (entM n c ρ)).bind fun p => match p.1 with
  | .rt d => some (d, outM n c p.2)
  | .nx => (match r with
    | .fz => some (.none, outM n c p.2)
    | _ => none)
  | _ => none
section
variable {P : Program} {w : World} {K : PySem.W.Frag} {mg : Str → Option Value} {base : Heap} {f : Addr} {fd : FuncData}
end
structure CShape (O Oi : List Kd) (n : Nat) : Prop where
  ho : hasO O = true
  hi : hasO Oi = true
  ea : ats Oi = ats O
  ec : cn Oi = cn O
  o1 : oi Oi = 0
  ln : nl Oi = n + 1
  lo : Oi.length = nl Oi + (ats O).length + 1
  lo2 : O.length = nl O + (ats O).length + 1
  fzs : ∀ i, i < nl Oi → Oi[i]? = some .fz
  kk : ∀ i, i < (ats O).length → Oi[nl Oi + i]? = O[nl O + i]?
  np : ∀ (i : Nat) (k : Kd), Oi[i]? = some k → k.pin = false
def mCallM (nc np : Nat) (mf : En → Option (D × En)) (ma : MA) : M := fun ρ => (ma ρ).bind fun p => (mf ((none :: p.1.map some) ++ p.2.drop nc)).bind fun z => some (z.1, p.2.take nc ++ z.2.drop np)
section
variable {K : PySem.W.Frag} {O Oi : List Kd} {n : Nat} {w1 : Wd} {ds : List D} {vs : List V}
theorem cell_last {O : List Kd} (h : hasO O = true) : ∃ o c as, O.getLast? = some (.cell o c as) := hasO_iff.mp h
theorem CShape.at_ (S : CShape O Oi n) {i : Nat} {k : Kd} (h : Oi[i]? = some k) (hk : k.own = true ∨ (k = .fz ∧ nl Oi ≤ i)) : nl Oi ≤ i ∧ i < nl Oi + (ats O).length ∧ O[nl O + (i - nl Oi)]? = some k := by
  have hi : i < Oi.length := (List.getElem?_eq_some_iff.mp h).1
  have h1 : nl Oi ≤ i := by
    rcases hk with hk | hk
    · refine Nat.le_of_not_lt fun z => ?_
      rw [S.fzs i z] at h
      cases h
      cases hk
    · exact hk.2
  have h2 : i < nl Oi + (ats O).length := by
    refine Classical.byContradiction fun z => ?_
    have e : i = Oi.length - 1 := by rw [S.lo] at hi ⊢; omega
    obtain ⟨o, c, as, hl⟩ := cell_last S.hi
    rw [List.getLast?_eq_getElem?, ← e, h] at hl
    cases hl
    rcases hk with hk | ⟨hk, _⟩
    · cases hk
    · cases hk
  refine ⟨h1, h2, ?_⟩
  have e := S.kk (i - nl Oi) (by omega)
  rw [show nl Oi + (i - nl Oi) = i by omega, h] at e
  exact e.symm
theorem CShape.gob (S : CShape O Oi n) {vs : List V} : ob Oi ((V.ref (ob O w1.σ) :: vs).map some) = ob O w1.σ := by
  show (match ((V.ref (ob O w1.σ) :: vs).map some)[oi Oi]? with | some (some (V.ref p)) => p | _ => 0) = _
  rw [S.o1] <;> rfl
theorem CShape.gsv (S : CShape O Oi n) (H : Hp) {i : Nat} (h1 : nl Oi ≤ i) : sv Oi H ((V.ref (ob O w1.σ) :: vs).map some) i = sv O H w1.σ (nl O + (i - nl Oi)) := by
  unfold sv
  rw [if_neg (by omega), if_neg (by omega), S.gob, S.ea, show nl O + (i - nl Oi) - nl O = i - nl Oi by omega]
theorem CShape.grho (S : CShape O Oi n) (hd : ds.length = n) {ρ : En} {i : Nat} (h1 : nl Oi ≤ i) : ((none :: ds.map some) ++ ρ.drop (nl O))[i]? = ρ[nl O + (i - nl Oi)]? := by
  have hl : (none :: ds.map some).length = nl Oi := by rw [List.length_cons, List.length_map, hd, S.ln]
  rw [List.getElem?_append_right (by omega), hl, List.getElem?_drop]
theorem CShape.gown (S : CShape O Oi n) (hd : ds.length = n) {F' H' : Hp} {ρ : En} {i : Nat} {p : Addr} (h : OwnAt Oi ⟨F', H', (V.ref (ob O w1.σ) :: vs).map some, (none :: ds.map some) ++ ρ.drop (nl O)⟩ i p) :
    nl Oi ≤ i ∧ OwnAt O ⟨F', H', w1.σ, ρ⟩ (nl O + (i - nl Oi)) p := by
  obtain ⟨k, d, h1, h2, h3, h4⟩ := h
  obtain ⟨g1, g2, g3⟩ := S.at_ h1 (.inl h2)
  exact ⟨g1, k, d, g3, h2, (S.grho hd g1).symm.trans h3, (S.gsv H' g1).symm.trans h4⟩
end
section
variable {X : Cx} {CX : CXT} {k : Nat} {f C : Addr} {fd : FuncData} {ps : List Str} {sp : Sp} {dvs : List V} {ds : List Value} {E : XK} {x m : Str} {p pos apos : Pos} {e o : Expr} {es : List Expr} {ta : TE} {t : TA}
end
structure MtX (P : Program) (w : World) (K : PySem.W.Frag) (mg : Str → Option Value) (base : Heap) (c m : Str) (k : Nat) (ps : List Str) (sp : Sp) : Prop where
  cls : Cls K (He.ga K c)
  mt : Meth K (He.ga K c) m (He.ma K (He.ga K c) m)
  ex : ∃ fd : FuncData, FnG P w K mg base CX0 k (He.ma K (He.ga K c) m) fd ps sp ∧ Binds K fd ps []
structure MkX (P : Program) (w : World) (K : PySem.W.Frag) (mg : Str → Option Value) (base : Heap) (c : Str) (k : Nat) (ps : List Str) (sp : Sp) : Prop where
  mkr : Mk K (He.ga K c) (He.ma K (He.ga K c) "__init__")
  gl : mg c = some (.ref (He.ga K c))
  ex : ∃ fd : FuncData, FnG P w K mg base CX0 k (He.ma K (He.ga K c) "__init__") fd ps sp ∧ Binds K fd ps []
section
variable {X : Cx} {O Oi : List Kd} {b : Bool} {k j n : Nat} {ps : List Str} {mf : En → Option (D × En)} {r : Ak} {x m : Str} {p pos apos : Pos} {e : Expr} {es : List Expr} {ma : MA} {ks : List Ak}
end
structure KShape (O Oi O' : List Kd) (i n : Nat) : Prop where
  n0 : hasO O = false
  hi : hasO Oi = true
  h' : hasO O' = true
  ea : ats O' = ats Oi
  ec : cn O' = cn Oi
  o1 : oi Oi = 0
  o2 : oi O' = i
  ln : nl Oi = n + 1
  l' : nl O' = O.length
  lo : Oi.length = nl Oi + (ats Oi).length + 1
  lo2 : O'.length = O.length + (ats Oi).length + 1
  oi_ : O[i]? = some .fz
  lc : ∀ j, j < O.length → O'[j]? = O[j]?
  fzs : ∀ j, j < nl Oi → Oi[j]? = some .fz
  kk : ∀ j, j < (ats Oi).length → Oi[nl Oi + j]? = O'[O.length + j]?
  np : ∀ (j : Nat) (k : Kd), Oi[j]? = some k → k.pin = false
section
variable {K : PySem.W.Frag} {O Oi O' : List Kd} {i n : Nat} {w1 : Wd} {ds : List D} {vs : List V} {x dx : Addr}
end
structure Made (K : PySem.W.Frag) (O O' : List Kd) (w1 wm : Wd) : Prop where
  ok : Ok K O' wm
  ex : Same w1.F wm.F
  kp : SameK w1.H wm.H
  nw : ∀ b o, w1.H b = some o → w1.F b = none → wm.F b = none
  fp : ∀ b, Fp O' wm b → Fp O w1 b ∨ w1.H b = none
  ob0 : w1.H (ob O' wm.σ) = none
section
variable {K : PySem.W.Frag} {O Oi O' : List Kd} {i n : Nat} {w1 : Wd} {ds : List D} {vs : List V} {x dx : Addr}
end
section
variable {X : Cx} {O Oi O' : List Kd} {k j : Nat} {ps : List Str} {mf : En → Option (D × En)} {r : Ak} {x c : Str} {p pos pos' spos : Pos} {e : Expr} {es : List Expr} {ma : MA} {ks : List Ak} {rest : List Stmt} {mm : MS}
end
def signs (x : Str) : List D := x.cps.toList.map fun c => .str ⟨#[c]⟩
def mItStr (m : M) : MI := fun ρ => (m ρ).bind fun p => match p.1 with
  | .str x => some (signs x, p.2)
  | _ => none
theorem signs_len {x : Str} : (signs x).length = x.cps.size := by
  unfold signs
  rw [List.length_map, Array.length_toList]
section
variable {X : Cx} {O L : List Kd} {tg e : Expr} {k : Ak}
theorem i_str {m : M} (h : PE X e (tE X.K O m .fz)) : PI X tg e (tI X.K O L (mItStr m)) := by
  refine PIi (pi_str h) fun σ H R ⟨F, ρ, ds, ρ', ok, hm, q⟩ => ?_
  obtain ⟨⟨d, ρ1⟩, e1, e2⟩ := bind_some hm
  cases d <;> first | (cases e2; done) | skip
  rename_i x
  cases e2
  refine ⟨F, ρ, _, _, ok, e1, fun v F1 H1 ok1 st1 r1 => ?_⟩
  have r1 : v = .str x := r1
  subst r1
  refine ⟨x, rfl, q _ F1 H1 (fun _ => True) ok1 st1 ?_ fun _ _ _ _ _ => trivial⟩
  rw [signs_len]
  refine walk_str.mono (fun _ h => h) fun i H x' H' hi _ y F e s => ?_
  obtain ⟨rfl, c, hc, rfl⟩ := y
  refine ⟨F, .refl s, .str ⟨#[c]⟩, ?_, rfl⟩
  unfold signs
  rw [List.getElem?_map, Array.getElem?_toList, hc]
  rfl
end
theorem vw_dict {K : PySem.W.Frag} {F H : Hp} {kvs : List (D × D)} {v : V} (n : noOb kvs = true) (h : Vw K F H (.dict kvs) v) : ∃ a vs, v = .ref a ∧ Rd H a (.dK vs) ∧ RpD K F kvs vs := noRpO n h
section
variable {K : PySem.W.Frag} {O : List Kd} {w w' : Wd}
theorem rs_view {k : Ak} {d e : D} {v : V} (ok : Ok K O w') (r : Rs K O w w' k d v) (hf : fill [k] [d] w'.ρ = some [e]) : Vw K w'.F w'.H e v := by
  have h : VwA K w'.F w'.H [e] [v] := Rss.views (O := O) (w := w) (w' := w') (ks := [k]) (ds := [d]) (vs := [v]) ok ⟨d, [], v, [], rfl, rfl, r, rfl, rfl⟩ hf
  obtain ⟨u, hu, z⟩ := h.one
  cases hu
  exact z
end
section
variable {X : Cx} {O : List Kd} {o e f : Expr} {apos cpos : Pos} {ka : Ak} {m mb : M}
end
section
variable {X : Cx} {O : List Kd} {o e f : Expr} {apos cpos : Pos} {m mb : M}
end
section
variable {X : Cx} {O : List Kd} {p pos : Pos} {a : Expr} {ma : MA} {ks : List Ak}
end
section
variable {K : PySem.W.Frag} {O : List Kd} {w : Wd} {p : Addr} {o o' : HO}
theorem Ok.oth (ok : Ok K O w) (hp : w.H p = some o) (hF : w.F p = none) (np : ¬ Fp O w p) (npo : hasO O = true → p ≠ ob O w.σ) (ho : ∀ a, o ≠ .own a) (nt : (∀ ps, o ≠ .tbl ps) ∧ ∀ φ, o ≠ .ext φ) :
    Ok K O ⟨w.F, upd w.H p o', w.σ, w.ρ⟩ := by
  have hO : hasO O = true → upd w.H p o' (ob O w.σ) = w.H (ob O w.σ) := fun e => upd_ne fun z => npo e z.symm
  have hsv : ∀ j, sv O (upd w.H p o') w.σ j = w.sv O j := fun j => sv_same hO
  have hfp : ∀ {b : Addr}, Fp O ⟨w.F, upd w.H p o', w.σ, w.ρ⟩ b ↔ Fp O w b := fp_same hO
  have hat : ∀ {i : Nat} {b : Addr}, OwnAt O ⟨w.F, upd w.H p o', w.σ, w.ρ⟩ i b ↔ OwnAt O w i b := own_same hO
  refine ⟨fun b u hb => ?_, ok.ls, ok.lr, fun i d e1 e2 => ?_, fun i k d e1 e2 e3 => ?_, fun i j q e1 e2 => ok.ap i j q (hat.mp e1) (hat.mp e2), fun e => ?_, fun P hP => ok_put hp nt (ok.tb P hP)⟩
  · show upd w.H p _ b = _
    rw [upd_ne (ne_of_none hb hF)]
    exact ok.sub b u hb
  · obtain ⟨u, g1, g2⟩ := ok.fz i d e1 e2
    exact ⟨u, (hsv i).trans g1, g2⟩
  · obtain ⟨q, g1, g2, u, g3, g4⟩ := ok.ow i k d e1 e2 e3
    have ne : q ≠ p := fun z => np (by rw [← z]; exact ⟨i, k, d, e1, e2, e3, g1⟩)
    exact ⟨q, (hsv i).trans g1, g2, u, by show upd w.H p _ q = _; rw [upd_ne ne]; exact g3, g4⟩
  · obtain ⟨a0, a1, ⟨C, dx, fs, a2, a3⟩, a4, a5, a6⟩ := ok.obj e
    have hd : dx ≠ p := fun z => by
      rw [z, hp] at a3
      cases a3
      exact ho _ rfl
    exact ⟨a0, a1, ⟨C, dx, fs, (hO e).trans a2, by show upd w.H p _ dx = _; rw [upd_ne hd]; exact a3⟩, a4, fun h => a5 (hfp.mp h), fun C dx fs z => a6 C dx fs ((hO e).symm.trans z)⟩
theorem Stp.oth {w0 : Wd} (st : Stp O w0 w) (ok : Ok K O w) (hp : w.H p = some o) (nt : (∀ ps, o ≠ .tbl ps) ∧ ∀ φ, o ≠ .ext φ) (h0 : w0.H p = none) (np : ¬ Fp O w p) (npo : hasO O = true → p ≠ ob O w.σ) : Stp O w0 ⟨w.F, upd w.H p o', w.σ, w.ρ⟩ := by
  have hO : hasO O = true → upd w.H p o' (ob O w.σ) = w.H (ob O w.σ) := fun e => upd_ne fun z => npo e z.symm
  have hsv : ∀ j, sv O (upd w.H p o') w.σ j = w.sv O j := fun j => sv_same hO
  have hfp : ∀ {b : Addr}, Fp O ⟨w.F, upd w.H p o', w.σ, w.ρ⟩ b ↔ Fp O w b := fp_same hO
  refine ⟨⟨st.ex, fun b u hb z _ => ?_, st.nw, fun b h => st.fp b (hfp.mp h), fun i k e1 e2 => (hsv i).trans (st.pn i k e1 e2), st.lk, fun i k q d e1 e2 e3 e4 => ?_, fun e => ⟨(st.o0 e).1, fun z => ?_⟩, fun P h => tab_put hp nt (st.tb P h)⟩, fun e => ?_⟩
  · show KH u (upd w.H p _ b)
    rw [upd_ne (ne_of_none hb h0)]
    exact st.kp' hb z
  · have g := st.lo i k q d e1 e2 e3 e4
    have ne : q ≠ p := fun z => np (by
      rw [← z]
      exact ⟨i, k, d, e1, Kd.own_of e2, (st.lk i k e1 e2).trans e3, (st.pn i k e1 (Kd.pin_of e2)).trans e4⟩)
    show upd w.H p _ q = _
    rw [upd_ne ne]
    exact g
  · have y := (st.o0 e).2 z
    have y2 := hO e
    rw [(st.o0 e).1] at y2
    exact fun q => y (y2.symm.trans q)
  · have y2 := hO e
    rw [(st.o0 e).1] at y2
    exact y2.trans (st.ost e)
end
abbrev MPs := En → Option (List (Key × D) × En)
def mpNil : MPs := fun ρ => some ([], ρ)
def mpCons (mk mv : M) (r : MPs) : MPs := fun ρ => (mk ρ).bind fun p => (dKey p.1).bind fun k => (mv p.2).bind fun q => (r q.2).map fun z => ((k, q.1) :: z.1, z.2)
def mergeD (kvs : List (D × D)) (more : List (Key × D)) : List (D × D) := more.foldl (fun acc kv => putD' kv.1 kv.2 acc) kvs
def mDisp (r : MPs) : M := fun ρ => (r ρ).map fun z => (.dict (mergeD [] z.1), z.2)
inductive RpP (K : PySem.W.Frag) (F : Hp) : List (Key × D) → List (Key × V) → Prop
  | nil : RpP K F [] []
  | cons {k : Key} {d : D} {v : V} {ds : List (Key × D)} {vs : List (Key × V)} : Rp K F d v → RpP K F ds vs → RpP K F ((k, d) :: ds) ((k, v) :: vs)
theorem RpP.mono {K : PySem.W.Frag} {F F' : Hp} (e : Same F F') {ds : List (Key × D)} {vs : List (Key × V)} (h : RpP K F ds vs) : RpP K F' ds vs := by
  induction h with
  | nil => exact .nil
  | cons h1 _ ih => exact .cons (Rp.mono e _ _ h1) ih
theorem RpP.len {K : PySem.W.Frag} {F : Hp} {ds : List (Key × D)} {vs : List (Key × V)} (h : RpP K F ds vs) : vs.length = ds.length := by
  induction h with
  | nil => rfl
  | cons _ _ ih => rw [List.length_cons, List.length_cons, ih]
structure PDs (X : Cx) (O : List Kd) (pos : Pos) (keys : List (Option Expr)) (values : List Expr) (r : MPs) : Prop where
  ex : ∃ trs : List (TE × TE), PPs X pos keys values trs ∧ ∀ (σ : L2.St) (F H : Hp) (ρ : En) (zs : List (Key × D)) (ρ' : En) (Q : List (V × V) → Hp → Prop), Ok X.K O ⟨F, H, σ, ρ⟩ → r ρ = some (zs, ρ') →
    (∀ (vs : List (Key × V)) F' H', Ok X.K O ⟨F', H', σ, ρ'⟩ → Stp O ⟨F, H, σ, ρ⟩ ⟨F', H', σ, ρ'⟩ → RpP X.K F' zs vs → Q (vs.map fun kv => (kV kv.1, kv.2)) H') → tPairs trs σ H Q
section
variable {X : Cx} {O : List Kd} {pos : Pos} {k v : Expr} {ks : List (Option Expr)} {vs : List Expr} {mk mv : M} {r : MPs}
end
structure AccO (K : PySem.W.Frag) (L : List Kd) (w1 : Wd) (Dl : Addr) (w : Wd) (acc : D) : Prop where
  ok : Ok K L w
  st : Stp L w1 w
  at_ : ∃ o, w.H Dl = some o ∧ OwnC K w.F o acc
  nf : w.F Dl = none
  np : ¬ Fp L w Dl
  fr : w1.H Dl = none
  no : hasO L = true → Dl ≠ ob L w.σ
section
variable {K : PySem.W.Frag} {L : List Kd} {w1 w w' : Wd} {Dl : Addr} {acc : D}
theorem AccO.step (a : AccO K L w1 Dl w acc) (ok : Ok K L w') (st : Stp L w w') : AccO K L w1 Dl w' acc := by
  obtain ⟨xs, h1, h2⟩ := a.at_
  exact ⟨ok, a.st.trans st, ⟨xs, h2.kh (st.kp' h1 a.np), h2.mono st.ex⟩, st.nw _ _ h1 a.np a.nf, st.nofp h1 a.np, a.fr, fun e => by rw [(st.o0 e).1]; exact a.no e⟩
theorem AccO.wipe {vs : List Nat} (hv : fzAt L vs = true) (a : AccO K L w1 Dl w acc) : AccO K L w1 Dl ⟨w.F, w.H, wipe w.σ vs, wipeE w.ρ vs⟩ acc :=
  ⟨a.ok.wipe hv, a.st.wipe hv, a.at_, a.nf, fun ⟨i, h⟩ => a.np ⟨i, (own_wipe hv).mp h⟩, a.fr, fun e => by show Dl ≠ ob L (L2.wipe w.σ vs); rw [ob_wipe hv e]; exact a.no e⟩
theorem ownc_own {F : Hp} {o : HO} : ∀ {d : D}, OwnC K F o d → ∀ a, o ≠ .own a
  | .none, h => h.elim
  | .bool _, h => h.elim
  | .int _, h => h.elim
  | .str _, h => h.elim
  | .tuple _, h => h.elim
  | .list _, ⟨_, e, _⟩ => fun a z => by rw [e] at z; cases z
  | .dict _, ⟨_, e, _⟩ => fun a z => by rw [e] at z; cases z
theorem AccO.push {acc' : D} {o' : HO} (a : AccO K L w1 Dl w acc) (r : OwnC K w.F o' acc') : AccO K L w1 Dl ⟨w.F, upd w.H Dl o', w.σ, w.ρ⟩ acc' := by
  obtain ⟨o, h1, h2⟩ := a.at_
  have hO : hasO L = true → upd w.H Dl o' (ob L w.σ) = w.H (ob L w.σ) := fun e => upd_ne fun z => a.no e z.symm
  exact ⟨a.ok.oth h1 a.nf a.np a.no (ownc_own h2) h2.nt, a.st.oth a.ok h1 h2.nt a.fr a.np a.no, ⟨o', upd_same, r⟩, a.nf, fun z => a.np ((fp_same (F := w.F) (H := w.H) hO).mp z), a.fr, a.no⟩
theorem AccO.new {o : HO} {d : D} (ok : Ok K L w) (st : Stp L w1 w) (h : w.H Dl = none) (h1 : w1.H Dl = none) (hc : OwnC K w.F o d) : AccO K L w1 Dl ⟨w.F, upd w.H Dl o, w.σ, w.ρ⟩ d := by
  have pu := Pur.owned (F := w.F) ok.sub h o
  obtain ⟨a, b⟩ := ok.pur pu
  have no : hasO L = true → Dl ≠ ob L w.σ := fun e z => by
    obtain ⟨C, dx, fs, y, _⟩ := (ok.obj e).ex
    rw [z, y] at h
    cases h
  exact ⟨a, st.trans b, ⟨o, upd_same, hc⟩, ok.sub.free h, fun z => (by
    obtain ⟨_, o, q⟩ := ok.ownF (p := Dl) ((fp_same (F := w.F) (H := w.H) b.ost).mp z)
    rw [h] at q
    cases q), h1, no⟩
end
def mDcL : List D → MG → MT → M → M → List Nat → List (D × D) → En → Option (List (D × D) × En)
  | [], _, _, _, _, _, acc, ρ => some (acc, ρ)
  | d :: ds, g, t, mk, e, vs, acc, ρ => (g d (wipeE ρ vs)).bind fun ρ1 => (t ρ1).bind fun p => if p.1 = true then (mk p.2).bind fun y => (dKey y.1).bind fun k => (e y.2).bind fun q => if acc.length < 1000000 then mDcL ds g t mk e vs (putD' k q.1 acc) q.2 else none
      else mDcL ds g t mk e vs acc p.2
def mDc (mi : MI) (g : MG) (t : MT) (mk e : M) (vs : List Nat) : M := fun ρ => (mi ρ).bind fun p => (mDcL p.1 g t mk e vs [] p.2).map fun q => (.dict q.1, restE p.2 vs q.2)
section
variable {K : PySem.W.Frag} {O L : List Kd} {g : MG} {t : MT} {mk e : M} {vs is : List Nat} {σ : L2.St} {H : Hp} {Q : VK} {mi : MI}
end
section
variable {X : Cx} {O L : List Kd} {kx vx tg iter : Expr} {ifs : List Expr} {scope : Scope} {own : List (Str × Nat)} {pos spos : Pos} {mi : MI} {g : MG} {is : List Nat} {t : MT} {mk e : M}
end
def isOb : HO → Bool
  | .ins _ _ _ => true
  | .own _ => true
  | .ext _ => true
  | _ => false
def RdLe (F F' : Hp) : Prop := (∀ b o, (∀ x y, o ≠ .frz x y) → Rd F b o → Rd F' b o) ∧ ∀ b o, isOb o = true → F b = some o → F' b = some o
theorem RdLe.sqt {K : PySem.W.Frag} {F F' : Hp} (e : RdLe F F') {a : Addr} {xs : List V} (h : SqT K F a xs) : SqT K F' a xs := by
  rcases h with h | h
  · exact .inl (e.1 _ _ (fun _ _ z => by cases z) h)
  · exact .inr h
theorem RdLe.sql {K : PySem.W.Frag} {F F' : Hp} (e : RdLe F F') {a : Addr} {xs : List V} (h : SqL K F a xs) : SqL K F' a xs := by
  rcases h with h | h
  · exact .inl (e.1 _ _ (fun _ _ z => by cases z) h)
  · exact .inr h
theorem FnR.le {K : PySem.W.Frag} {F F' : Hp} (e : RdLe F F') {n : Int} {f : Addr} {cl : List (Str × Addr)} (h : FnR K F n f cl) : FnR K F' n f cl := by
  rcases h with ⟨h0, ps, b, sc, pm, c', ctv, h1, h2, h3, h4⟩ | h
  · exact .inl ⟨h0, ps, b, sc, pm, c', ctv, h1, e.2 _ _ rfl h2, e.2 _ _ rfl h3, h4⟩
  · exact .inr h
mutual
theorem Rp.le {K : PySem.W.Frag} {F F' : Hp} (e : RdLe F F') : ∀ (d : D) (v : V), Rp K F d v → Rp K F' d v
  | .none, _, h => h
  | .bool _, _, h => h
  | .int _, _, h => h
  | .str _, _, h => h
  | .list ds, _, h => by
    obtain ⟨a, xs, h1, h2, h3⟩ := h
    exact ⟨a, xs, h1, e.sql h2, RpA.le e ds xs h3⟩
  | .tuple ds, _, h => by
    obtain ⟨a, xs, h1, h2, h3⟩ := h
    exact ⟨a, xs, h1, e.sqt h2, RpA.le e ds xs h3⟩
  | .dict kvs, v, h => by
    rcases h with ⟨a, vs, h1, h2, h3⟩ | h
    · exact .inl ⟨a, vs, h1, e.1 _ _ (fun _ _ z => by cases z) h2, RpD.le e kvs vs h3⟩
    · exact .inr (RpO.le e kvs v h)
theorem RpO.le {K : PySem.W.Frag} {F F' : Hp} (e : RdLe F F') : ∀ (r : List (D × D)) (v : V), RpO K F r v → RpO K F' r v
  | [], _, h => h
  | (k, d) :: r, v, h => by
    obtain ⟨h0, ⟨c, x, dx, fs, h1, h2, h3, h5, h6⟩ | ⟨n, f, cl, h1, h2, h3, h4⟩⟩ := h
    · exact ⟨h0, .inl ⟨c, x, dx, fs, h1, h2, e.2 _ _ rfl h3, RpF.le e r fs h5, h6⟩⟩
    · exact ⟨h0, .inr ⟨n, f, cl, h1, h2, h3.le e, RpC.le e r cl h4⟩⟩
theorem RpC.le {K : PySem.W.Frag} {F F' : Hp} (e : RdLe F F') : ∀ (r : List (D × D)) (cl : List (Str × Addr)), RpC K F r cl → RpC K F' r cl
  | [], _, h => h
  | (k, d) :: r, cl, h => by
    obtain ⟨y, c, o, u, v, cr, h1, h2, h3, h4, h5, h6, h7⟩ := h
    exact ⟨y, c, o, u, v, cr, h1, h2, e.2 _ _ rfl h3, h4, h5, Rp.le e d v h6, RpC.le e r cr h7⟩
theorem RpF.le {K : PySem.W.Frag} {F F' : Hp} (e : RdLe F F') : ∀ (r : List (D × D)) (fs : List (Str × V)), RpF K F r fs → RpF K F' r fs
  | [], _, h => h
  | (k, d) :: r, fs, h => by
    obtain ⟨⟨s, v, h1, h2, h3⟩, h4⟩ := h
    exact ⟨⟨s, v, h1, h2, Rp.le e d v h3⟩, RpF.le e r fs h4⟩
theorem RpA.le {K : PySem.W.Frag} {F F' : Hp} (e : RdLe F F') : ∀ (ds : List D) (vs : List V), RpA K F ds vs → RpA K F' ds vs
  | [], _, h => h
  | d :: ds, _, h => by
    obtain ⟨v, vs, h1, h2, h3⟩ := h
    exact ⟨v, vs, h1, Rp.le e d v h2, RpA.le e ds vs h3⟩
theorem RpD.le {K : PySem.W.Frag} {F F' : Hp} (e : RdLe F F') : ∀ (ds : List (D × D)) (vs : List (Key × V)), RpD K F ds vs → RpD K F' ds vs
  | [], _, h => h
  | (k, d) :: r, _, h => by
    obtain ⟨q, v, vr, h1, h2, h3, h4⟩ := h
    exact ⟨q, v, vr, h1, h2, Rp.le e d v h3, RpD.le e r vr h4⟩
end
theorem OwnC.le {K : PySem.W.Frag} {F F' : Hp} (e : RdLe F F') {o : HO} : ∀ {d : D}, OwnC K F o d → OwnC K F' o d
  | .none, h => h
  | .bool _, h => h
  | .int _, h => h
  | .str _, h => h
  | .tuple _, h => h
  | .list ds, ⟨xs, h1, h2⟩ => ⟨xs, h1, RpA.le e _ _ h2⟩
  | .dict kvs, ⟨xs, h1, h2⟩ => ⟨xs, h1, RpD.le e _ _ h2⟩
section
variable {K : PySem.W.Frag} {O : List Kd} {w : Wd} {a : Addr} {u u' : HO}
end
section
variable {X : Cx} {O L : List Kd} {e tg : Expr} {m : M} {k : Ak}
theorem RpD.keys {K : PySem.W.Frag} {F : Hp} : ∀ {kvs : List (D × D)} {vs : List (Key × V)}, RpD K F kvs vs → kvs.map (·.1) = vs.map fun kv => kD kv.1
  | [], _, h => by
    rw [show _ = [] from h]
    rfl
  | (_, _) :: r, _, ⟨q, v, vr, e, e2, h1, h⟩ => by
    subst e e2
    rw [List.map_cons, List.map_cons, RpD.keys h]
end
section
variable {K : PySem.W.Frag} {O L : List Kd} {i : Nat} {g : MG} {t : MT} {e : M} {vs is : List Nat} {σ : L2.St} {H : Hp} {Q : VK} {mi : MI}
end
section
variable {X : Cx} {O L : List Kd} {elt tg iter : Expr} {ifs : List Expr} {scope : Scope} {own : List (Str × Nat)} {pos : Pos} {g : MG} {is : List Nat} {t : MT} {e : M}
end
section
open PySem.W PySem.Calls
variable {prog : Program} {w : World} {A : Around} {E : Value → Shared → Prop} {s : Shared}
theorem star_list {l : Addr} {items : Array Value} {n i : Nat} {Q : List Value → Shared → Prop} (hl : s.heap.IsList l items) (hh : A.handled = none) (hi : i < n) (hn : n ≤ items.size + 1) (hz : items.size ≤ 16384)
    (h : ∀ h' tk, (∀ b o, s.heap.get? b = some o → h'.get? b = some o) → wpAny (model prog w) A (newList ((items.toList.drop i).take (items.size + 1 - n))) (fun d s' => Q (items.toList.take i ++ [d] ++ (items.toList.drop i).drop (items.size + 1 - n)) s') E { s with heap := h', toks := tk }) :
    wpAny (model prog w) A (unpackItems (.ref l) n (some i)) Q E s := by
  have hlt : l ≠ s.heap.objs.size := by obtain ⟨o, ho, _⟩ := hl; exact Nat.ne_of_lt (Heap.lt_size ho)
  have hll : l < s.heap.objs.size := by obtain ⟨o, ho, _⟩ := hl; exact Heap.lt_size ho
  unfold unpackItems
  refine wpAny_bind ?_
  unfold notIterableAtAll
  refine wpAny_bind (wpAny_specialOf hl.typeIs F.slot_list_iter.lookup ?_)
  refine wpAny_pure ?_
  simp only [Bool.false_eq_true, if_false]
  refine wpAny_bind (wpAny_holding (wpAny_pyIter_list hl ?_))
  refine wpAny_bind (wpAny_holding (kun_draw hlt i 0 _ _ ⟨_, Heap.get?_push_size _ rfl, rfl, rfl⟩ (hl.push _) (by omega) fun h₁ hit₁ hs₁ => ?_))
  have hl₁ : h₁.IsList l items := (hl.push _).extBut hs₁.extBut hlt
  rw [Nat.zero_add] at hit₁
  have hit₁' := hit₁
  obtain ⟨oi, hoi, _⟩ := hit₁'
  have hl₁' := hl₁
  obtain ⟨ol, hol, _⟩ := hl₁'
  rw [List.drop_zero]
  have hfl : (items.toList.take i).length = i := by rw [List.length_take, Array.length_toList]; omega
  rw [if_neg (show ¬ ((items.toList.take i).length < i) by rw [hfl]; omega)]
  refine wpAny_bind (wpAny_holding (kun_collect (s := { s with heap := h₁ }) (T := "list_iterator") (.inr (.inr (.inl rfl))) (Walks.list (A := A.in1) hh s.heap.objs.size l hlt items) (fun j u st => st.1.typeIs) (k := i) (by omega) ⟨hit₁, hl₁⟩ (Heap.lt_size hoi) (Heap.lt_size hol) (fun h₂ tk hk => ?_) (by rw [sizeLine_eq]; omega)))
  have hrl : (items.toList.drop i).length = items.size - i := by rw [List.length_drop, Array.length_toList]
  have hmid : (items.toList.drop i).length - (n - 1 - i) = items.size + 1 - n := by rw [hrl]; omega
  show wpAny _ _ (if (items.toList.drop i).length < n - 1 - i then _ else _) _ _ _
  rw [if_neg (by rw [hrl]; omega)]
  show wpAny _ _ (newList ((items.toList.drop i).take ((items.toList.drop i).length - (n - 1 - i))) >>= fun d => pure (items.toList.take i ++ [d] ++ (items.toList.drop i).drop ((items.toList.drop i).length - (n - 1 - i)))) _ _ _
  rw [hmid]
  refine wpAny_bind (wpAny_mono (h h₂ tk fun b o e => hk b o (Nat.ne_of_lt (Heap.lt_size e)) (hs₁.extBut b o (Nat.ne_of_lt (Heap.lt_size e)) (Heap.get?_push_of_some _ e))) (fun d s' z => wpAny_pure z) fun _ _ z => z)
theorem star_tup {l : Addr} {items : Array Value} {n i : Nat} {Q : List Value → Shared → Prop} (hl : IsTup s.heap l items) (hh : A.handled = none) (hi : i < n) (hn : n ≤ items.size + 1) (hz : items.size ≤ 16384)
    (h : ∀ h' tk, (∀ b o, s.heap.get? b = some o → h'.get? b = some o) → wpAny (model prog w) A (newList ((items.toList.drop i).take (items.size + 1 - n))) (fun d s' => Q (items.toList.take i ++ [d] ++ (items.toList.drop i).drop (items.size + 1 - n)) s') E { s with heap := h', toks := tk }) :
    wpAny (model prog w) A (unpackItems (.ref l) n (some i)) Q E s := by
  have hlt : l ≠ s.heap.objs.size := by obtain ⟨o, ho, _⟩ := hl; exact Nat.ne_of_lt (Heap.lt_size ho)
  have hll : l < s.heap.objs.size := by obtain ⟨o, ho, _⟩ := hl; exact Heap.lt_size ho
  unfold unpackItems
  refine wpAny_bind ?_
  unfold notIterableAtAll
  refine wpAny_bind (wpAny_specialOf hl.typeIs F.slot_tuple_iter.lookup ?_)
  refine wpAny_pure ?_
  simp only [Bool.false_eq_true, if_false]
  refine wpAny_bind (wpAny_holding (iter_tuple hl ?_))
  refine wpAny_bind (wpAny_holding (draw_tuple hlt i 0 _ _ ⟨_, Heap.get?_push_size _ rfl, rfl, rfl⟩ (hl.push _) (by omega) fun h₁ hit₁ hs₁ => ?_))
  have hl₁ : IsTup h₁ l items := (hl.push _).extBut hs₁.extBut hlt
  rw [Nat.zero_add] at hit₁
  have hit₁' := hit₁
  obtain ⟨oi, hoi, _⟩ := hit₁'
  have hl₁' := hl₁
  obtain ⟨ol, hol, _⟩ := hl₁'
  rw [List.drop_zero]
  have hfl : (items.toList.take i).length = i := by rw [List.length_take, Array.length_toList]; omega
  rw [if_neg (show ¬ ((items.toList.take i).length < i) by rw [hfl]; omega)]
  refine wpAny_bind (wpAny_holding (kun_collect (s := { s with heap := h₁ }) (T := "tuple_iterator") (.inr (.inr (.inr rfl))) (Walks.tuple (A := A.in1) hh s.heap.objs.size l hlt items) (fun j u st => st.1.typeIs) (k := i) (by omega) ⟨hit₁, hl₁⟩ (Heap.lt_size hoi) (Heap.lt_size hol) (fun h₂ tk hk => ?_) (by rw [sizeLine_eq]; omega)))
  have hrl : (items.toList.drop i).length = items.size - i := by rw [List.length_drop, Array.length_toList]
  have hmid : (items.toList.drop i).length - (n - 1 - i) = items.size + 1 - n := by rw [hrl]; omega
  show wpAny _ _ (if (items.toList.drop i).length < n - 1 - i then _ else _) _ _ _
  rw [if_neg (by rw [hrl]; omega)]
  show wpAny _ _ (newList ((items.toList.drop i).take ((items.toList.drop i).length - (n - 1 - i))) >>= fun d => pure (items.toList.take i ++ [d] ++ (items.toList.drop i).drop ((items.toList.drop i).length - (n - 1 - i)))) _ _ _
  rw [hmid]
  refine wpAny_bind (wpAny_mono (h h₂ tk fun b o e => hk b o (Nat.ne_of_lt (Heap.lt_size e)) (hs₁.extBut b o (Nat.ne_of_lt (Heap.lt_size e)) (Heap.get?_push_of_some _ e))) (fun d s' z => wpAny_pure z) fun _ _ z => z)
end
section
variable {X : Cx} {e : Expr} {es : List Expr} {t : TG} {u : TGs} {p pos : Pos}
theorem pgs_star (h1 : PG X e t) (h2 : PGs X es u) (hs : (assignEach (.Starred e p :: es) X.env).map (·.2) = assign e X.env :: (assignEach es X.env).map (·.2) := by rfl) : PGs X (.Starred e p :: es) (gCons t u) := by
  refine ⟨fun pins s σ H vs us Q I r h => ?_⟩
  obtain ⟨v, vr, e1, h⟩ := h
  subst e1
  cases r with
  | cons r rr =>
    rw [hs]
    refine assignInOrder_cons (thn (h1.run pins s σ H _ _ _ I r h) fun _ s1 ⟨σ1, H1, I1, q1⟩ => ?_)
    exact h2.run pins s1 σ1 H1 _ _ Q I1 rr q1
def gStar (K : PySem.W.Frag) (n i : Nat) (t : TGs) : TG := fun v σ H Q => ∃ a xs, v = .ref a ∧ (SqL K H a xs ∨ SqT K H a xs) ∧ n ≤ xs.length + 1 ∧ xs.length ≤ 16384 ∧
  ∀ p, H p = none → t (xs.take i ++ [.ref p] ++ (xs.drop i).drop (xs.length + 1 - n)) σ (upd H p (.lst ((xs.drop i).take (xs.length + 1 - n)))) Q
theorem valsTake : ∀ {xs : List V} {us : List Value} (n : Nat), Vals xs us → Vals (xs.take n) (us.take n)
  | _, _, 0, _ => .nil
  | _, _, n + 1, .nil => .nil
  | _, _, n + 1, .cons h t => .cons h (valsTake n t)
theorem valsDrop : ∀ {xs : List V} {us : List Value} (n : Nat), Vals xs us → Vals (xs.drop n) (us.drop n)
  | _, _, 0, h => h
  | _, _, n + 1, .nil => .nil
  | _, _, n + 1, .cons h t => valsDrop n t
theorem pg_star {n i c : Nat} (hc : X.calm = true) (h : PGs X es u) (hi : i < n) (hn : (assignEach es X.env).length = n := by rfl) (hst : (assignEach es X.env).findIdx? (·.1) = some i := by rfl) : PG X (.Tuple es c pos) (gStar X.K n i u) := by
  refine ⟨fun pins s σ H v w Q I r hw => ?_⟩
  obtain ⟨a, xs, e1, hq, hl, hz, hw⟩ := hw
  subst e1
  cases r
  rw [PyProof.Rows.assign_Tuple]
  refine wpAny_bind (wpAny_standAt ?_)
  unfold unpack
  rw [hn, hst]
  have fin : ∀ {its : List Value}, Vals xs its → ∀ (h' : Heap) (tk : Nat), (∀ b o, s.heap.get? b = some o → h'.get? b = some o) →
      wpAny (model X.prog X.w) X.A (newList ((its.drop i).take (its.length + 1 - n))) (fun d s' => wpAny (model X.prog X.w) X.A (assignInOrder ((assignEach es X.env).map (·.2)) (its.take i ++ [d] ++ (its.drop i).drop (its.length + 1 - n))) (fun _ s' => ∃ σ' H', L2.Inv X pins σ' H' s' ∧ Q σ' H') X.xe s') X.xe { s with heap := h', toks := tk } := fun {its} rv h' tk hk => by
    have I1 : Inv X pins σ H { s with heap := h', toks := tk } := I.kept hk
    have ll : its.length = xs.length := rv.length.symm
    have hf : H h'.objs.size = none := I1.hok.fresh (Nat.le_refl _)
    refine PySem.wpAny_newList ?_ (by rw [List.length_take, List.length_drop, sizeLine_eq]; omega)
    have hm : (xs.drop i).take (xs.length + 1 - n) = (xs.drop i).take (its.length + 1 - n) := by rw [ll]
    have I2 : Inv X pins σ (upd H h'.objs.size (.lst ((xs.drop i).take (xs.length + 1 - n)))) { s with heap := h'.push { cls := .type "list", data := .seq ((its.drop i).take (its.length + 1 - n)).toArray }, toks := tk } := by
      refine I1.laid (t' := tk) (fun b u e => Heap.get?_push_of_some _ e) (Nat.le_refl _) ?_
      refine ⟨?_, (its.drop i).take (its.length + 1 - n), 0, ?_, Heap.get?_push_size _ rfl⟩
      · rw [List.length_take, List.length_drop, sizeLine_eq]
        omega
      · rw [hm]
        exact valsTake _ (valsDrop i rv)
    refine h.run pins _ σ _ _ _ Q I2 ?_ (hw _ hf)
    rw [ll]
    exact ((valsTake i rv).append (show Vals [V.ref h'.objs.size] [Value.ref h'.objs.size] from .cons (show RelV (V.ref h'.objs.size) (Value.ref h'.objs.size) from rfl) .nil)).append (valsDrop _ (valsDrop i rv))
  rcases hq with hq | hq
  · obtain ⟨its, rv, pl, hz2⟩ := I.list hq
    have ll : its.toArray.size = xs.length := by rw [List.size_toArray, rv.length]
    refine wpAny_bind (wpAny_holding (star_list (Q := fun vs s' => wpAny (model X.prog X.w) X.A (assignInOrder ((assignEach es X.env).map (·.2)) vs) (fun _ s' => ∃ σ' H', L2.Inv X pins σ' H' s' ∧ Q σ' H') X.xe s') pl.isList (I.ok.hd hc) hi (by rw [ll]; exact hl) (by rw [ll]; exact hz) fun h' tk hk => ?_))
    have := fin rv h' tk hk
    rw [List.size_toArray]
    simpa using this
  · obtain ⟨its, rv, pl, hz2⟩ := I.tuple hq
    have ll : its.toArray.size = xs.length := by rw [List.size_toArray, rv.length]
    refine wpAny_bind (wpAny_holding (star_tup (Q := fun vs s' => wpAny (model X.prog X.w) X.A (assignInOrder ((assignEach es X.env).map (·.2)) vs) (fun _ s' => ∃ σ' H', L2.Inv X pins σ' H' s' ∧ Q σ' H') X.xe s') pl (I.ok.hd hc) hi (by rw [ll]; exact hl) (by rw [ll]; exact hz) fun h' tk hk => ?_))
    have := fin rv h' tk hk
    rw [List.size_toArray]
    simpa using this
end
def tGH (K : PySem.W.Frag) (O : List Kd) (g : MG) : TG := fun v σ H Q => ∃ F ρ d ρ', Ok K O ⟨F, H, σ, ρ⟩ ∧ Rp K F d v ∧ g d ρ = some ρ' ∧
  ∀ σ' F' H', Ok K O ⟨F', H', σ', ρ'⟩ → StpS O ⟨F, H, σ, ρ⟩ ⟨F', H', σ', ρ'⟩ → Q σ' H'
def tGsH (K : PySem.W.Frag) (O : List Kd) (g : List D → En → Option En) : TGs := fun vs σ H Q => ∃ F ρ ds ρ', Ok K O ⟨F, H, σ, ρ⟩ ∧ RpA K F ds vs ∧ g ds ρ = some ρ' ∧
  ∀ σ' F' H', Ok K O ⟨F', H', σ', ρ'⟩ → StpS O ⟨F, H, σ, ρ⟩ ⟨F', H', σ', ρ'⟩ → Q σ' H'
def mgIx (i : Nat) (mi : M) : MG := fun d ρ => (mBr i ρ).bind fun _ => (mi ρ).bind fun q => match q.1, q.2[i]? with
  | .int j, some (some (.list ds)) => (ixN ds.length j).map fun n => q.2.set i (some (.list (ds.set n d)))
  | _, _ => none
def mgStar (n i : Nat) (r : List D → En → Option En) : MG := fun d ρ => match d with
  | .list ds => if n ≤ ds.length + 1 ∧ ds.length ≤ 16384 then r (ds.take i ++ [.list ((ds.drop i).take (ds.length + 1 - n))] ++ (ds.drop i).drop (ds.length + 1 - n)) ρ else none
  | .tuple ds => if n ≤ ds.length + 1 ∧ ds.length ≤ 16384 then r (ds.take i ++ [.list ((ds.drop i).take (ds.length + 1 - n))] ++ (ds.drop i).drop (ds.length + 1 - n)) ρ else none
  | _ => none
section
variable {X : Cx} {O : List Kd} {e o ix : Expr} {es : List Expr} {p pos spos : Pos} {g : MG} {gs : List D → En → Option En} {is : List Nat} {m mi : M} {r : Ak}
theorem gH_of (h : PG X e (tG X.K O g is)) : PG X e (tGH X.K O g) := PGi h fun v σ H Q ⟨F, ρ, d, ρ', ok, r, hg, q⟩ => ⟨F, ρ, d, ρ', ok, r, hg, fun σ' ok' st _ => q σ' F H ok' st.toStpS⟩
theorem gsH_nil : PGs X [] (tGsH X.K O mgNil) := by
  refine PGsi pgs_nil fun v σ H Q ⟨F, ρ, ds, ρ', ok, r, hg, k⟩ => ?_
  cases ds with
  | nil =>
    cases hg
    exact ⟨r, k σ F H ok (StpS.refl _ _)⟩
  | cons d ds => cases hg
theorem gsH_core {vs : List V} {σ : L2.St} {H : Hp} {Q : L2.St → Hp → Prop} (h : tGsH X.K O (mgCons g gs) vs σ H Q) : gCons (tGH X.K O g) (tGsH X.K O gs) vs σ H Q := by
  obtain ⟨F, ρ, ds, ρ', ok, r, hg, k⟩ := h
  cases ds with
  | nil => cases hg
  | cons d ds =>
    obtain ⟨v1, vs, e1, r1, r2⟩ := r
    obtain ⟨ρ1, g1, g2⟩ := bind_some hg
    exact ⟨v1, vs, e1, F, ρ, d, ρ1, ok, r1, g1, fun σ1 F1 H1 ok1 st1 => ⟨F1, ρ1, ds, ρ', ok1, r2.mono st1.ex, g2, fun σ2 F2 H2 ok2 st2 => k σ2 F2 H2 ok2 (st1.trans st2)⟩⟩
theorem gsH_cons (h1 : PG X e (tGH X.K O g)) (h2 : PGs X es (tGsH X.K O gs)) (hs : (assignEach (e :: es) X.env).map (·.2) = assign e X.env :: (assignEach es X.env).map (·.2) := by rfl) : PGs X (e :: es) (tGsH X.K O (mgCons g gs)) :=
  PGsi (pgs_cons h1 h2 hs) fun _ _ _ _ h => gsH_core h
theorem gsH_star (h1 : PG X e (tGH X.K O g)) (h2 : PGs X es (tGsH X.K O gs)) (hs : (assignEach (.Starred e p :: es) X.env).map (·.2) = assign e X.env :: (assignEach es X.env).map (·.2) := by rfl) : PGs X (.Starred e p :: es) (tGsH X.K O (mgCons g gs)) :=
  PGsi (pgs_star h1 h2 hs) fun _ _ _ _ h => gsH_core h
theorem star_go {n i : Nat} {ds : List D} {xs : List V} {F H : Hp} {σ : L2.St} {ρ ρ' : En} {Q : L2.St → Hp → Prop} (ok : Ok X.K O ⟨F, H, σ, ρ⟩) (h2 : RpA X.K F ds xs) (hg : gs (ds.take i ++ [.list ((ds.drop i).take (ds.length + 1 - n))] ++ (ds.drop i).drop (ds.length + 1 - n)) ρ = some ρ')
    (k : ∀ σ' F' H', Ok X.K O ⟨F', H', σ', ρ'⟩ → StpS O ⟨F, H, σ, ρ⟩ ⟨F', H', σ', ρ'⟩ → Q σ' H') : ∀ p, H p = none → tGsH X.K O gs (xs.take i ++ [.ref p] ++ (xs.drop i).drop (xs.length + 1 - n)) σ (upd H p (.lst ((xs.drop i).take (xs.length + 1 - n)))) Q := fun p hp => by
  have pu := Pur.frozen (F := F) ok.sub hp (.lst ((xs.drop i).take (xs.length + 1 - n)))
  obtain ⟨ok1, st1⟩ := ok.pur pu
  have ll := h2.length
  refine ⟨_, ρ, _, ρ', ok1, ?_, hg, fun σ' F' H' ok' st' => k σ' F' H' ok' (st1.toStpS.trans st')⟩
  have h3 := h2.mono pu.ex
  refine ((h3.take i).append (.cons ?_ .nil)).append ?_
  · exact ⟨p, _, rfl, .inl (.inl upd_same), ll ▸ (h3.drop i).take (xs.length + 1 - n)⟩
  · exact ll ▸ (h3.drop i).drop (xs.length + 1 - n)
theorem gH_star {n i c : Nat} (hc : X.calm = true) (h : PGs X es (tGsH X.K O gs)) (hi : i < n := by decide) (hn : (assignEach es X.env).length = n := by rfl) (hst : (assignEach es X.env).findIdx? (·.1) = some i := by rfl) : PG X (.Tuple es c pos) (tGH X.K O (mgStar n i gs)) := by
  refine PGi (pg_star hc h hi hn hst) fun v σ H Q ⟨F, ρ, d, ρ', ok, r, hg, k⟩ => ?_
  unfold mgStar at hg
  split at hg
  · rename_i ds
    split at hg
    · rename_i hl
      obtain ⟨a, xs, e1, h1, h2⟩ := r
      exact ⟨a, xs, e1, .inl (ok.sub.seq h1), by rw [h2.length]; exact hl.1, by rw [h2.length]; exact hl.2, star_go ok h2 hg k⟩
    · cases hg
  · rename_i ds
    split at hg
    · rename_i hl
      obtain ⟨a, xs, e1, h1, h2⟩ := r
      exact ⟨a, xs, e1, .inr (same_sqt ok.sub h1), by rw [h2.length]; exact hl.1, by rw [h2.length]; exact hl.2, star_go ok h2 hg k⟩
    · cases hg
  · cases hg
theorem s_asgH {tg : Expr} (he : PE X e (tE X.K O m .fz)) (hg : PG X tg (tGH X.K O g)) (hs : swapsWithSole [tg] e pos.line X.env = pure false := by rfl) (hw : swappedStores [tg] e X.env = pure none := by rfl)
    (h1 : (assignEach [tg] X.env).map (·.2) = [assign tg X.env] := by rfl) : PS X (.Assign [tg] e pos) (tS X.K O (mAsg g m) r) := by
  refine PSi (ps_asg he hg hs hw h1) fun Dn σ H ⟨F, ρ, fl, ρ', ok, hm, q⟩ => ?_
  obtain ⟨⟨d, ρ1⟩, e1, e2⟩ := bind_some hm
  obtain ⟨ρ2, e3, e4⟩ := map_some e2
  cases e4
  exact ⟨F, ρ, d, ρ1, ok, e1, fun v F1 H1 ok1 st1 r1 => ⟨F1, ρ1, d, ρ', ok1, r1, e3, fun σ2 F2 H2 ok2 st2 => q σ2 F2 H2 ok2 (st1.toStpS.trans st2)⟩⟩
end
open PySem PySem.Spec PyProof.Rows L2
mutual
theorem rpB_ok {K : PySem.W.Frag} : ∀ (d : D) (u : Value), rpB K d u = true → ∃ v, RelV v u ∧ ∀ F : Hp, Rp K F d v
  | .none, u, h => by
    cases u <;> first | (exact ⟨.non, rfl, fun _ => rfl⟩) | cases h
  | .bool b, u, h => by
    cases u <;> first | cases h | skip
    rename_i c
    have h : b = c := by simpa [rpB] using h
    subst h
    exact ⟨.bl b, rfl, fun _ => rfl⟩
  | .int i, u, h => by
    cases u <;> first | cases h | skip
    rename_i j t
    have h : i = j := by simpa [rpB] using h
    subst h
    exact ⟨.int i, ⟨t, rfl⟩, fun _ => rfl⟩
  | .str x, u, h => by
    cases u <;> first | cases h | skip
    rename_i j t
    have h : x = j := by simpa [rpB] using h
    subst h
    exact ⟨.str x, ⟨t, rfl⟩, fun _ => rfl⟩
  | .tuple ds, u, h => by
    cases u <;> first | cases h | skip
    rename_i a
    have h : (match K.lookup a with
      | some ⟨.type c, _, .seq its _, _⟩ => decide (c = "tuple") && (decide (its.size ≤ sizeLine) && rpBA K ds its.toList)
      | _ => false) = true := h
    split at h
    · rename_i c od its n osl q
      obtain ⟨h1, h2⟩ := Bool.and_eq_true_iff.mp h
      obtain ⟨h3, h4⟩ := Bool.and_eq_true_iff.mp h2
      obtain ⟨vs, r1, r2⟩ := rpBA_ok ds its.toList h4
      exact ⟨.ref a, rfl, fun F => ⟨a, vs, rfl, .inr ⟨_, its, n, q, congrArg Value.type (of_decide_eq_true h1), rfl, of_decide_eq_true h3, r1⟩, r2 F⟩⟩
    · cases h
  | .list ds, u, h => by
    cases u <;> first | cases h | skip
    rename_i a
    have h : (match K.lookup a with
      | some ⟨.type c, none, .seq its _, _⟩ => decide (c = "list") && (decide (its.size ≤ sizeLine) && rpBA K ds its.toList)
      | _ => false) = true := h
    split at h
    · rename_i c its n osl q
      obtain ⟨h1, h2⟩ := Bool.and_eq_true_iff.mp h
      obtain ⟨h3, h4⟩ := Bool.and_eq_true_iff.mp h2
      obtain ⟨vs, r1, r2⟩ := rpBA_ok ds its.toList h4
      exact ⟨.ref a, rfl, fun F => ⟨a, vs, rfl, .inr ⟨_, its, n, q, congrArg Value.type (of_decide_eq_true h1), rfl, rfl, of_decide_eq_true h3, r1⟩, r2 F⟩⟩
    · cases h
  | .dict _, _, h => by cases h
theorem rpBA_ok {K : PySem.W.Frag} : ∀ (ds : List D) (us : List Value), rpBA K ds us = true → ∃ vs, Vals vs us ∧ ∀ F : Hp, RpA K F ds vs
  | [], us, h => by
    cases us with
    | nil => exact ⟨[], .nil, fun _ => rfl⟩
    | cons u us => cases h
  | d :: ds, us, h => by
    cases us with
    | nil => cases h
    | cons u us =>
      obtain ⟨h1, h2⟩ := Bool.and_eq_true_iff.mp (show (rpB K d u && rpBA K ds us) = true from h)
      obtain ⟨v, r1, r2⟩ := rpB_ok d u h1
      obtain ⟨vs, r3, r4⟩ := rpBA_ok ds us h2
      exact ⟨v :: vs, .cons r1 r3, fun F => ⟨v, vs, rfl, r2 F, r4 F⟩⟩
end
structure GC (K : PySem.W.Frag) (mg : Str → Option Value) (x : Str) (d : D) : Prop where
  ex : ∃ (u : Value) (v : V), mg x = some u ∧ RelV v u ∧ ∀ F : Hp, Rp K F d v
theorem gc_ok {K : PySem.W.Frag} {h : Heap} {mg : Str → Option Value} (X : K.In h) (G : h.Ns mainGlobals mg) {x : Str} {d : D} (c : gcB K x d = true) : GC K mg x d := by
  unfold gcB at c
  split at c
  · rename_i u e
    obtain ⟨v, r1, r2⟩ := rpB_ok d u c
    exact ⟨u, v, PySem.W.mg_of X G e, r1, r2⟩
  · cases c
theorem e_gc {X : Cx} {O : List Kd} {x : Str} {p : Pos} {d : D} (h : GC X.K X.mg x d) (hg : Gl X x := by rfl) (h1 : (x == ("__debug__" : Str)) = false := by decide) : PE X (.Name x p) (tE X.K O (mC d) .fz) := by
  obtain ⟨u, v, e1, e2, e3⟩ := h.ex
  exact e_glob e1 e2 e3 hg h1
def lkD (z : Str) : List (Str × D) → Option D
  | [] => none
  | (k, d) :: r => if k = z then some d else lkD z r
structure GD (K : PySem.W.Frag) (w : World) (mg : Str → Option Value) (x : Str) (kvs : List (Str × D)) : Prop where
  ex : ∃ (a : Addr) (es : Array DictEntry) (n : Nat), mg x = some (.ref a) ∧ KDict K w a es n ∧ ∀ z, (lkD z kvs = none ∧ PySem.W.nsIn K a z = some none) ∨ ∃ d u v, lkD z kvs = some d ∧ PySem.W.nsIn K a z = some (some u) ∧ RelV v u ∧ ∀ F : Hp, Rp K F d v
theorem dv_find {K : PySem.W.Frag} {z : Str} : ∀ {l : List DictEntry} {kvs : List (Str × D)}, dvB K l kvs = true → l.any (·.refKey) = false ∧ ((lkD z kvs = none ∧ l.find? (·.key.isStr z) = none) ∨ ∃ d e v, lkD z kvs = some d ∧ l.find? (·.key.isStr z) = some e ∧ RelV v e.val ∧ ∀ F : Hp, Rp K F d v)
  | [], [], _ => ⟨rfl, .inl ⟨rfl, rfl⟩⟩
  | e :: r, (k, d) :: s, h => by
    obtain ⟨h1, h2⟩ := Bool.and_eq_true_iff.mp (show ((match e.key with | .str y _ => decide (y = k) | _ => false) && (rpB K d e.val && dvB K r s)) = true from h)
    obtain ⟨h3, h4⟩ := Bool.and_eq_true_iff.mp h2
    obtain ⟨v, r1, r2⟩ := rpB_ok d e.val h3
    obtain ⟨i1, i2⟩ := dv_find (z := z) h4
    split at h1
    · rename_i y t ek
      have h1 := of_decide_eq_true h1
      subst h1
      have rk : e.refKey = false := by
        unfold DictEntry.refKey
        rw [ek]
      refine ⟨by rw [List.any_cons, rk, i1]; rfl, ?_⟩
      have is : e.key.isStr z = decide (y = z) := by
        rw [ek]
        show (y == z) = decide (y = z)
        rw [Bool.eq_iff_iff]
        simp
      unfold lkD
      by_cases q : y = z
      · rw [if_pos q, List.find?_cons_of_pos (by rw [is]; exact decide_eq_true q)]
        exact .inr ⟨d, e, v, rfl, rfl, r1, r2⟩
      · rw [if_neg q, List.find?_cons_of_neg (by rw [is]; simpa using q)]
        exact i2
    · cases h1
  | [], _ :: _, h => by cases h
  | _ :: _, [], h => by cases h
theorem gd_ok {K : PySem.W.Frag} {h : Heap} {w : World} {mg : Str → Option Value} {x : Str} {kvs : List (Str × D)} (hm : mg x = some (.ref (He.ga K x))) (kd : ∃ es n, KDict K w (He.ga K x) es n) (c : gdB K x kvs = true) : GD K w mg x kvs := by
  obtain ⟨es, n, kd⟩ := kd
  refine ⟨He.ga K x, es, n, hm, kd, fun z => ?_⟩
  unfold gdB at c
  rw [kd.at_] at c
  obtain ⟨i1, i2⟩ := dv_find (z := z) (show dvB K es.toList kvs = true from c)
  unfold PySem.W.nsIn
  rw [kd.at_]
  rcases i2 with ⟨i2, i3⟩ | ⟨d, e, v, i2, i3, i4, i5⟩
  · refine .inl ⟨i2, ?_⟩
    show (match es.toList.find? (·.key.isStr z) with
      | some e => some (some e.val)
      | none => if es.toList.any (·.refKey) then none else some none) = _
    rw [i3]
    show (if es.toList.any (·.refKey) then none else some none) = _
    rw [i1]
    rfl
  · refine .inr ⟨d, e.val, v, i2, ?_, i4, i5⟩
    show (match es.toList.find? (·.key.isStr z) with
      | some e => some (some e.val)
      | none => if es.toList.any (·.refKey) then none else some none) = _
    rw [i3]
def dKget (kvs : List (Str × D)) : List D → Option D
  | [.str z] => lkD z kvs
  | _ => none
def dKin (neg : Bool) (kvs : List (Str × D)) : List D → Option D
  | [.str z] => some (.bool (if neg then !(lkD z kvs).isSome else (lkD z kvs).isSome))
  | _ => none
theorem pe_glb {X : Cx} {x : Str} {p : Pos} {v : V} {u : Value} (hg : Gl X x) (hm : X.mg x = some u) (r : RelV v u) (h1 : (x == ("__debug__" : Str)) = false) : PE X (.Name x p) (tC v) := by
  refine ⟨fun pins s σ H Q I h => ?_⟩
  exact ld_glob I hg hm ⟨v, H, I, r, h⟩ h1
section
variable {X : Cx} {O : List Kd} {x : Str} {p pos : Pos} {kvs : List (Str × D)} {e : Expr} {ka : Ak} {m : M} {σ : L2.St} {H : Hp} {Q : VK}
theorem one_of {K : PySem.W.Frag} {op : List D → Option D} (h : tE K O (m1 ka m op) .fz σ H Q) : ∃ F ρ d ρ1, Ok K O ⟨F, H, σ, ρ⟩ ∧ m ρ = some (d, ρ1) ∧ ∀ v F1 H1, Ok K O ⟨F1, H1, σ, ρ1⟩ → Stp O ⟨F, H, σ, ρ⟩ ⟨F1, H1, σ, ρ1⟩ → Rs K O ⟨F, H, σ, ρ⟩ ⟨F1, H1, σ, ρ1⟩ ka d v →
    ∃ e z, Vw K F1 H1 e v ∧ op [e] = some z ∧ ∀ v2, Rp K F1 z v2 → Q v2 H1 := by
  obtain ⟨F, ρ, d, ρ', ok, hm, q⟩ := h
  obtain ⟨⟨ds, ρ1⟩, h1, h2⟩ := bind_some hm
  obtain ⟨es, h3, h4⟩ := bind_some h2
  obtain ⟨z, h5, h6⟩ := map_some h4
  cases h6
  obtain ⟨⟨d1, ρ2⟩, h7, h8⟩ := bind_some h1
  obtain ⟨⟨_, _⟩, h9, h10⟩ := bind_some h8
  cases h9
  cases h10
  have hes : ∃ e, es = [e] := by
    cases ka with
    | br i =>
      obtain ⟨d', _, g2⟩ := slot_some h3
      obtain ⟨_, g3, g4⟩ := map_some g2
      cases g3
      exact ⟨_, g4.symm⟩
    | fz =>
      obtain ⟨_, g3, g4⟩ := map_some h3
      cases g3
      exact ⟨_, g4.symm⟩
    | ow =>
      obtain ⟨_, g3, g4⟩ := map_some h3
      cases g3
      exact ⟨_, g4.symm⟩
  obtain ⟨e, rfl⟩ := hes
  exact ⟨F, ρ, d1, ρ2, ok, h7, fun v F1 H1 ok1 st1 r1 => ⟨e, _, rs_view ok1 r1 h3, h5, fun v2 r2 => q v2 F1 H1 ok1 st1 r2⟩⟩
theorem vw_str {K : PySem.W.Frag} {F H : Hp} {z : Str} {v : V} (h : Vw K F H (.str z) v) : v = .str z := h
theorem e_kget (h : GD X.K X.w X.mg x kvs) (he : PE X e (tE X.K O m ka)) (hg : Gl X x := by rfl) (h1 : (x == ("__debug__" : Str)) = false := by decide) (hs : PlainIx e := by exact fun _ _ => rfl) : PE X (.Subscript (.Name x p) e pos) (tE X.K O (m1 ka m (dKget kvs)) .fz) := by
  obtain ⟨a, es, n, e1, kd, e3⟩ := h.ex
  refine PEi (pe_ix ix_kdict (pe_glb (v := V.ref a) hg e1 rfl h1) he hs) fun σ H Q hq => ?_
  obtain ⟨F, ρ, d, ρ1, ok, hm, k⟩ := one_of hq
  show tE X.K O m ka σ H _
  refine ⟨F, ρ, d, ρ1, ok, hm, fun v F1 H1 ok1 st1 r1 => ?_⟩
  obtain ⟨e, z, q1, q2, q3⟩ := k v F1 H1 ok1 st1 r1
  have hy : ∃ y, e = .str y := by
    cases e <;> first | exact ⟨_, rfl⟩ | cases q2
  obtain ⟨y, rfl⟩ := hy
  · have q2 : lkD y kvs = some z := q2
    have := vw_str q1
    subst this
    rcases e3 y with ⟨b1, b2⟩ | ⟨d', u', v', b1, b2, b3, b4⟩
    · rw [q2] at b1
      cases b1
    · rw [q2] at b1
      cases b1
      exact ⟨a, y, v', rfl, rfl, ⟨es, n, u', kd.at_, kd.lit, b2, b3⟩, q3 _ (b4 F1)⟩
theorem kin_core {neg : Bool} {a : Addr} (e3 : ∀ z, (lkD z kvs = none ∧ PySem.W.nsIn X.K a z = some none) ∨ ∃ d u v, lkD z kvs = some d ∧ PySem.W.nsIn X.K a z = some (some u) ∧ RelV v u ∧ ∀ F : Hp, Rp X.K F d v)
    (hq : tE X.K O (m1 ka m (dKin neg kvs)) .fz σ H Q) : tOp (fun x y H Q => ∃ (z : Str) (r : Option Value), x = .str z ∧ y = .ref a ∧ PySem.W.nsIn X.K a z = some r ∧ Q (.bl (if neg then !r.isSome else r.isSome)) H) (tE X.K O m ka) (tC (.ref a)) σ H Q := by
  obtain ⟨F, ρ, d, ρ1, ok, hm, k⟩ := one_of hq
  refine ⟨F, ρ, d, ρ1, ok, hm, fun v F1 H1 ok1 st1 r1 => ?_⟩
  obtain ⟨e, z, q1, q2, q3⟩ := k v F1 H1 ok1 st1 r1
  have hy : ∃ y, e = .str y := by
    cases e <;> first | exact ⟨_, rfl⟩ | cases q2
  obtain ⟨y, rfl⟩ := hy
  · cases q2
    have := vw_str q1
    subst this
    rcases e3 y with ⟨b1, b2⟩ | ⟨d', u', v', b1, b2, b3, b4⟩
    · refine ⟨y, none, rfl, rfl, b2, q3 _ ?_⟩
      rw [b1]
      rfl
    · refine ⟨y, some u', rfl, rfl, b2, q3 _ ?_⟩
      rw [b1]
      rfl
theorem t_kin (h : GD X.K X.w X.mg x kvs) (he : PE X e (tE X.K O m ka)) (hg : Gl X x := by rfl) (h1 : (x == ("__debug__" : Str)) = false := by decide) (hm : behindInMarks .In (.Name x p) = false := by rfl) : PT X (.Compare e [.In] [.Name x p] pos) (tT X.K O (mTr (m1 ka m (dKin false kvs)))) := by
  obtain ⟨a, es, n, e1, kd, e3⟩ := h.ex
  exact PTi (pt_cmpR (op_in_kd kd) he (pe_glb (v := V.ref a) hg e1 rfl h1) hm) fun σ H Q hq => kin_core (neg := false) e3 (tTr hq)
end
def dEqE : List D → Option D
  | [.dict a, .dict b] => if a.length ≠ b.length ∨ a.length = 0 then gob a (gob b (some (.bool (decide (a.length = b.length))))) else none
  | _ => none
def dNeE : List D → Option D
  | [.dict a, .dict b] => if a.length ≠ b.length ∨ a.length = 0 then gob a (gob b (some (.bool (!decide (a.length = b.length))))) else none
  | _ => none
def rEqE (neg : Bool) : R2 := fun x y H Q => ∃ a b ks ls, x = .ref a ∧ y = .ref b ∧ Rd H a (.dK ks) ∧ Rd H b (.dK ls) ∧ (ks.length ≠ ls.length ∨ ks.length = 0) ∧ Q (.bl (if neg then !decide (ks.length = ls.length) else decide (ks.length = ls.length))) H
section
variable {X : Cx}
theorem keqE {K : Type} [DecidableEq K] {A : Around} {s : Shared} {va vb : List (K × Value)} (h : va.length ≠ vb.length ∨ va.length = 0) : va.length = vb.length → PySem.W.KeqHits A s vb va true := fun e => by
  rcases h with h | h
  · exact (h e).elim
  · rw [List.length_eq_zero_iff.mp h]
    exact .nil
theorem op_eqE (hu : X.A.units + 64 < cLine) : OpR X (compareOp .Eq) (rEqE false) := by
  intro pins s σ H x y v u Q I rx ry h
  obtain ⟨a, b, ks, ls, rfl, rfl, ea, eb, hc, q⟩ := h
  obtain rfl : v = Value.ref a := rx
  obtain rfl : u = Value.ref b := ry
  obtain ⟨_, ya, va, ra, da⟩ := dk_rd I.hok ea
  obtain ⟨_, yb, vb, rb, db⟩ := dk_rd I.hok eb
  have la : ks.length = va.length := Paired.length ra
  have lb : ls.length = vb.length := Paired.length rb
  rw [la, lb] at hc
  exact PySem.W.keq_eq (knd := mixKind X.prog X.w) (r := true) ya yb da db (by omega) (keqE hc) (fin_bl I q (by rw [la, lb, Bool.and_true]; exact (Bool.beq_eq_decide_eq _ _).symm))
theorem op_neE (hu : X.A.units + 64 < cLine) : OpR X (compareOp .NotEq) (rEqE true) := by
  intro pins s σ H x y v u Q I rx ry h
  obtain ⟨a, b, ks, ls, rfl, rfl, ea, eb, hc, q⟩ := h
  obtain rfl : v = Value.ref a := rx
  obtain rfl : u = Value.ref b := ry
  obtain ⟨_, ya, va, ra, da⟩ := dk_rd I.hok ea
  obtain ⟨_, yb, vb, rb, db⟩ := dk_rd I.hok eb
  have la : ks.length = va.length := Paired.length ra
  have lb : ls.length = vb.length := Paired.length rb
  rw [la, lb] at hc
  exact PySem.W.keq_ne (knd := mixKind X.prog X.w) (r := true) ya yb da db (by omega) (keqE hc) (fin_bl I q (by rw [la, lb, Bool.and_true]; exact congrArg not (Bool.beq_eq_decide_eq _ _).symm))
end
section
variable {K : PySem.W.Frag}
theorem s_eqE : LSem K (rL2 (rEqE false)) dEqE .fz := by
  intro F H ds vs d Q s hv ho q
  unfold dEqE at ho
  split at ho
  · rename_i a b
    split at ho
    · rename_i h
      obtain ⟨n1, ho⟩ := gob_some ho
      obtain ⟨n2, ho⟩ := gob_some ho
      cases ho
      obtain ⟨v, u, rfl, h1, h2⟩ := hv.two
      obtain ⟨p, xs, rfl, p1, p2⟩ := vw_dict n1 h1
      obtain ⟨r, ys, rfl, r1, r2⟩ := vw_dict n2 h2
      rw [← p2.length, ← r2.length] at h
      refine ⟨_, _, rfl, p, r, xs, ys, rfl, rfl, p1, r1, h, q.now s ?_⟩
      rw [p2.length, r2.length]
      rfl
    · cases ho
  · cases ho
theorem s_neE : LSem K (rL2 (rEqE true)) dNeE .fz := by
  intro F H ds vs d Q s hv ho q
  unfold dNeE at ho
  split at ho
  · rename_i a b
    split at ho
    · rename_i h
      obtain ⟨n1, ho⟩ := gob_some ho
      obtain ⟨n2, ho⟩ := gob_some ho
      cases ho
      obtain ⟨v, u, rfl, h1, h2⟩ := hv.two
      obtain ⟨p, xs, rfl, p1, p2⟩ := vw_dict n1 h1
      obtain ⟨r, ys, rfl, r1, r2⟩ := vw_dict n2 h2
      rw [← p2.length, ← r2.length] at h
      refine ⟨_, _, rfl, p, r, xs, ys, rfl, rfl, p1, r1, h, q.now s ?_⟩
      rw [p2.length, r2.length]
      rfl
    · cases ho
  · cases ho
end
section
variable {X : Cx} {CX : CXT} {k : Nat} {f : Addr} {fd : FuncData} {ps : List Str} {sp : Sp} {E : XK}
end
section
variable {X : Cx} {O Oi : List Kd} {b : Bool} {k j : Nat} {ps : List Str} {mf : En → Option (D × En)} {x : Str} {p p2 pos : Pos}
end
section
variable {X : Cx} {r r' : R2} {f : Value → Value → Sem Value}
theorem orO (h : OpR X f r) (h' : OpR X f r') : OpR X f (fun x y H Q => r x y H Q ∨ r' x y H Q) := fun pins s σ H x y v u Q I rx ry q => q.elim (h pins s σ H x y v u Q I rx ry) (h' pins s σ H x y v u Q I rx ry)
theorem orIx (h : IxR X r) (h' : IxR X r') : IxR X (fun x y H Q => r x y H Q ∨ r' x y H Q) := fun a b pins s σ H x y v u Q I rx ry q => q.elim (h a b pins s σ H x y v u Q I rx ry) (h' a b pins s σ H x y v u Q I rx ry)
theorem ix_dget (hu : X.A.units + 65 < cLine) : IxR X rDGet := by
  intro value slice pins s σ H x y v u Q I rx ry h hs
  obtain ⟨a, v0, ex, g, q⟩ := h
  subst ex
  obtain rfl : v = Value.ref a := rx
  exact PyProof.Rows.tail_any (dict_typeIs I g) PySem.F.slot_dict_getitem.lookup (d_getItem (by omega) I g ry fun w' s3 I3 rw' => ⟨v0, H, I3, rw', q⟩) hs
theorem op_dinO (hu : X.A.units + 65 < cLine) : OpR X (compareOp .In) (rDIn false) := by
  intro pins s σ H y x iv u Q I ry rx h
  obtain ⟨a, o, ex, g, q⟩ := h
  subst ex
  obtain rfl : u = Value.ref a := rx
  exact d_in (by omega) I g ry fun s3 I3 => ⟨.bl o.isSome, H, I3, rfl, q⟩
theorem op_dninO (hu : X.A.units + 65 < cLine) : OpR X (compareOp .NotIn) (rDIn true) := by
  intro pins s σ H y x iv u Q I ry rx h
  obtain ⟨a, o, ex, g, q⟩ := h
  subst ex
  obtain rfl : u = Value.ref a := rx
  exact d_notIn (by omega) I g ry fun s3 I3 => ⟨.bl (!o.isSome), H, I3, rfl, q⟩
end
def orD (f g : List D → Option D) : List D → Option D := fun ds => match f ds with
  | some z => some z
  | none => g ds
section
variable {K : PySem.W.Frag} {f g : List D → Option D} {k : Ak}
theorem s_or {r r' : List V → Hp → VK → Prop} (h : LSem K r f k) (h' : LSem K r' g k) : LSem K (fun vs H Q => r vs H Q ∨ r' vs H Q) (orD f g) k := by
  intro F H ds vs d Q s hv ho q
  unfold orD at ho
  split at ho
  · rename_i z e
    cases ho
    exact .inl (h F H ds vs _ Q s hv e q)
  · exact .inr (h' F H ds vs _ Q s hv ho q)
theorem s_or2 {r r' : R2} (h : LSem K (rL2 r) f k) (h' : LSem K (rL2 r') g k) : LSem K (rL2 fun x y H Q => r x y H Q ∨ r' x y H Q) (orD f g) k := by
  intro F H ds vs d Q s hv ho q
  rcases s_or h h' F H ds vs d Q s hv ho q with ⟨x, y, e, z⟩ | ⟨x, y, e, z⟩
  · exact ⟨x, y, e, .inl z⟩
  · exact ⟨x, y, e, .inr z⟩
theorem Post.frz {F H : Hp} {d : D} {Q : VK} (s : Same F H) (q : Post K F H .fz d Q) : Post K F H .ow d Q := fun v F' H' pu r => by
  obtain ⟨p, rfl, h1, ⟨o, h2, h3⟩, h4⟩ := r
  have e' : Same F' (upd F' p o) := fun b u hb => by
    rw [upd_ne (ne_of_none hb h1)]
    exact hb
  refine q (.ref p) (upd F' p o) H' ⟨pu.ex.trans e', pu.hh, fun b u hb => ?_, fun b u hb f => ?_⟩ ((h3.mono e').rp upd_same)
  · by_cases e : b = p
    · subst e
      rw [upd_same] at hb
      cases hb
      exact h2
    · rw [upd_ne e] at hb
      exact pu.sub b u hb
  · rw [upd_ne (ne_of_none hb h4)]
    exact pu.nw b u hb f
theorem s_frz {r : List V → Hp → VK → Prop} (h : LSem K r f .ow) : LSem K r f .fz := fun F H ds vs d Q s hv ho q => h F H ds vs d Q s hv ho (q.frz s)
end
def dIxU := orD dIx dDget
section
variable {X : Cx} {O L : List Kd} {a b e : Expr} {ka kb : Ak} {m mb : M} {pos p : Pos}
theorem e_ixU (hu : X.A.units + 65 < cLine) (ha : PE X a (tE X.K O m ka)) (hb : PE X b (tE X.K O mb kb)) (hs : PlainIx b := by exact fun _ _ => rfl) : PE X (.Subscript a b pos) (tE X.K O (m2 ka kb m mb dIxU) .fz) :=
  PEi (pe_ix (orIx ix_seq (ix_dget hu)) ha hb hs) fun _ _ _ h => tOp_of (s_or2 s_ix s_dget) h
def dInD (neg : Bool) : List D → Option D
  | [d, .list ds] => if (eqOk d && eqOk (.list ds)) = true then some (.bool (if neg then !ds.any (fun z => PyData.eqv z d) else ds.any fun z => PyData.eqv z d)) else none
  | _ => none
theorem s_inDD {K : PySem.W.Frag} : LSem K (rL2 (rInD K)) (dInD false) .fz := by
  intro F H ds vs d Q s hv ho q
  unfold dInD at ho
  split at ho
  · rename_i a bs
    split at ho
    · rename_i h
      cases ho
      obtain ⟨v, u, e, h1, h2⟩ := hv.two
      obtain ⟨ha, hb⟩ := Bool.and_eq_true_iff.mp h
      obtain ⟨a1, a2⟩ := eqOk_of ha
      obtain ⟨b1, b2⟩ := eqOk_of hb
      exact ⟨v, u, e, a, bs, h1.dp s a2, h2.dp s b2, a1, b1, q.now s rfl⟩
    · cases ho
  · cases ho
theorem s_ninDD {K : PySem.W.Frag} : LSem K (rL2 (rNotInD K)) (dInD true) .fz := by
  intro F H ds vs d Q s hv ho q
  unfold dInD at ho
  split at ho
  · rename_i a bs
    split at ho
    · rename_i h
      cases ho
      obtain ⟨v, u, e, h1, h2⟩ := hv.two
      obtain ⟨ha, hb⟩ := Bool.and_eq_true_iff.mp h
      obtain ⟨a1, a2⟩ := eqOk_of ha
      obtain ⟨b1, b2⟩ := eqOk_of hb
      exact ⟨v, u, e, a, bs, h1.dp s a2, h2.dp s b2, a1, b1, q.now s rfl⟩
    · cases ho
  · cases ho
def dInU := orD dIn (orD (dDin false) (dInD false))
def dNinU := orD dNin (orD (dDin true) (dInD true))
theorem e_in (hu : X.A.units + 65 < cLine) (ha : PE X a (tE X.K O m ka)) (hb : PE X b (tE X.K O mb kb)) (hm : behindInMarks .In b = false := by first | exact nomark _ | exact nobehind _ (by decide) (by decide) | rfl | with_unfolding_all rfl) : PE X (.Compare a [.In] [b] pos) (tE X.K O (m2 ka kb m mb dInU) .fz) :=
  PEi (pe_cmpR (orO op_inA (orO (op_dinO hu) (op_inD hu))) ha hb hm) fun _ _ _ h => tOp_of (s_or2 s_in (s_or2 s_din s_inDD)) h
theorem t_in (hu : X.A.units + 65 < cLine) (ha : PE X a (tE X.K O m ka)) (hb : PE X b (tE X.K O mb kb)) (hm : behindInMarks .In b = false := by first | exact nomark _ | exact nobehind _ (by decide) (by decide) | rfl | with_unfolding_all rfl) : PT X (.Compare a [.In] [b] pos) (tT X.K O (mTr (m2 ka kb m mb dInU))) :=
  PTi (pt_cmpR (orO op_inA (orO (op_dinO hu) (op_inD hu))) ha hb hm) fun _ _ _ h => tOp_of (s_or2 s_in (s_or2 s_din s_inDD)) (tTr h)
theorem t_nin (hu : X.A.units + 65 < cLine) (ha : PE X a (tE X.K O m ka)) (hb : PE X b (tE X.K O mb kb)) (hm : behindInMarks .NotIn b = false := by first | exact nomark _ | exact nobehind _ (by decide) (by decide) | rfl | with_unfolding_all rfl) : PT X (.Compare a [.NotIn] [b] pos) (tT X.K O (mTr (m2 ka kb m mb dNinU))) :=
  PTi (pt_cmpR (orO op_ninA (orO (op_dninO hu) (op_notInD hu))) ha hb hm) fun _ _ _ h => tOp_of (s_or2 s_nin (s_or2 s_din s_ninDD)) (tTr h)
def dEqU := orD dEq dEqE
def dNeU := orD dNe dNeE
theorem e_eq (hu : X.A.units + 65 < cLine) (ha : PE X a (tE X.K O m ka)) (hb : PE X b (tE X.K O mb kb)) (hm : behindInMarks .Eq b = false := by first | exact nomark _ | rfl | with_unfolding_all rfl) : PE X (.Compare a [.Eq] [b] pos) (tE X.K O (m2 ka kb m mb dEqU) .fz) :=
  PEi (pe_cmpR (orO (op_eqD (by omega)) (op_eqE (by omega))) ha hb hm) fun _ _ _ h => tOp_of (s_or2 s_eq s_eqE) h
theorem t_eq (hu : X.A.units + 65 < cLine) (ha : PE X a (tE X.K O m ka)) (hb : PE X b (tE X.K O mb kb)) (hm : behindInMarks .Eq b = false := by first | exact nomark _ | rfl | with_unfolding_all rfl) : PT X (.Compare a [.Eq] [b] pos) (tT X.K O (mTr (m2 ka kb m mb dEqU))) :=
  PTi (pt_cmpR (orO (op_eqD (by omega)) (op_eqE (by omega))) ha hb hm) fun _ _ _ h => tOp_of (s_or2 s_eq s_eqE) (tTr h)
theorem t_ne (hu : X.A.units + 65 < cLine) (ha : PE X a (tE X.K O m ka)) (hb : PE X b (tE X.K O mb kb)) (hm : behindInMarks .NotEq b = false := by first | exact nomark _ | rfl | with_unfolding_all rfl) : PT X (.Compare a [.NotEq] [b] pos) (tT X.K O (mTr (m2 ka kb m mb dNeU))) :=
  PTi (pt_cmpR (orO (op_neD (by omega)) (op_neE (by omega))) ha hb hm) fun _ _ _ h => tOp_of (s_or2 s_ne s_neE) (tTr h)
def dAddU := orD dAdd (orD dCat (orD dCatT dAddS))
theorem e_add (ha : PE X a (tE X.K O m ka)) (hb : PE X b (tE X.K O mb kb)) : PE X (.BinOp a .Add b pos) (tE X.K O (m2 ka kb m mb dAddU) .fz) :=
  PEi (pe_op (orO op_add (orO op_catS (orO op_catA op_add_str))) ha hb) fun _ _ _ h => tOp_of (s_or2 s_add (s_or2 (s_frz s_cat) (s_or2 s_catT s_addS))) h
def dSlS (d : D) (lo hi : Option Int) : Option D := match d with
  | .str z => if z.length ≤ 100000 then some (.str (cutS z lo hi)) else none
  | _ => none
theorem sl_s {K : PySem.W.Frag} : SlSem K rSlS dSlS .fz := by
  intro F H d v lo hi z Q s hv ho q
  unfold dSlS at ho
  split at ho
  · rename_i x
    split at ho
    · rename_i hx
      cases ho
      have hv : v = .str x := hv
      exact ⟨x, hv, Nat.le_trans hx (by decide), q.now s rfl⟩
    · cases ho
  · cases ho
def orS (f g : D → Option Int → Option Int → Option D) : D → Option Int → Option Int → Option D := fun d lo hi => match f d lo hi with
  | some z => some z
  | none => g d lo hi
theorem sl_or {K : PySem.W.Frag} {k : Ak} {r r' : V → Option Int → Option Int → Hp → VK → Prop} {f g : D → Option Int → Option Int → Option D} (h : SlSem K r f k) (h' : SlSem K r' g k) : SlSem K (fun x lo hi H Q => r x lo hi H Q ∨ r' x lo hi H Q) (orS f g) k := by
  intro F H d v lo hi z Q s hv ho q
  unfold orS at ho
  split at ho
  · rename_i z e
    cases ho
    exact .inl (h F H d v lo hi _ Q s hv e q)
  · exact .inr (h' F H d v lo hi z Q s hv ho q)
theorem sl_frz {K : PySem.W.Frag} {r : V → Option Int → Option Int → Hp → VK → Prop} {f : D → Option Int → Option Int → Option D} (h : SlSem K r f .ow) : SlSem K r f .fz := fun F H d v lo hi z Q s hv ho q => h F H d v lo hi z Q s hv ho (q.frz s)
def dSlU := orS dSlL (orS dSlT dSlS)
theorem e_slU {lo hi : Option Expr} {ml mh : MO} (he : PE X e (tE X.K O m ka)) (h1 : PO X lo (tO X.K O ml)) (h2 : PO X hi (tO X.K O mh)) : PE X (.Subscript e (.Slice lo hi none p) pos) (tE X.K O (mSl ka m ml mh dSlU) .fz) :=
  e_sl (SlR.or sl_list (SlR.or sl_tupA sl_str)) (sl_or (sl_frz sl_l) (sl_or sl_t sl_s)) he h1 h2
def mItU (m : M) : MI := fun ρ => (m ρ).bind fun p => match p.1 with
  | .list ds => some (ds, p.2)
  | .tuple ds => some (ds, p.2)
  | .str x => some (signs x, p.2)
  | _ => none
theorem i_any {tg : Expr} (h : PE X e (tE X.K O m .fz)) : PI X tg e (tI X.K O L (mItU m)) := by
  refine PIi (PI.or (i_seq (L := L) h) (i_str (L := L) h)) fun σ H R ⟨F, ρ, ds, ρ', ok, hm, q⟩ => ?_
  obtain ⟨⟨d, ρ1⟩, e1, e3⟩ := bind_some hm
  cases d <;> cases e3
  · exact .inr ⟨F, ρ, _, ρ1, ok, by unfold mItStr; rw [e1]; rfl, q⟩
  · exact .inl ⟨F, ρ, _, ρ1, ok, by unfold mItS; rw [e1]; rfl, q⟩
  · exact .inl ⟨F, ρ, _, ρ1, ok, by unfold mItS; rw [e1]; rfl, q⟩
def dLenD : List D → Option D
  | [.dict kvs] => gob kvs (some (.int kvs.length))
  | _ => none
theorem call_lenR : CallR X (.builtin "len") (fun xs H Q => ∃ a kvs, xs = [V.ref a] ∧ Rd H a (.dK kvs) ∧ Q (.int kvs.length) H) := by
  intro pins s σ H xs us Q I r h
  obtain ⟨a, kvs, rfl, ha, q⟩ := h
  obtain ⟨u, rfl, ru⟩ := L2.vals1 r
  cases ru
  exact d_len I ha fun t s' I' => ⟨.int kvs.length, H, I', ⟨t, rfl⟩, q⟩
theorem s_lenD {K : PySem.W.Frag} : LSem K (fun xs H Q => ∃ a kvs, xs = [V.ref a] ∧ Rd H a (.dK kvs) ∧ Q (.int kvs.length) H) dLenD .fz := by
  intro F H ds vs d Q s hv ho q
  unfold dLenD at ho
  split at ho
  · obtain ⟨n0, ho⟩ := gob_some ho
    cases ho
    obtain ⟨v, rfl, h⟩ := hv.one
    obtain ⟨a, ws, rfl, h1, h2⟩ := vw_dict n0 h
    refine ⟨a, ws, rfl, h1, q.now s ?_⟩
    rw [h2.length]
    rfl
  · cases ho
def dLenU := orD dLen dLenD
theorem orC {X : Cx} {f : Value} {r r' : List V → Hp → VK → Prop} (h : CallR X f r) (h' : CallR X f r') : CallR X f (fun vs H Q => r vs H Q ∨ r' vs H Q) := fun pins s σ H xs us Q I rv q => q.elim (h pins s σ H xs us Q I rv) (h' pins s σ H xs us Q I rv)
theorem e_lenU (B : Bt X.mg) {ma : MA} {ks : List Ak} (ha : PA X [a] (tA X.K O ma ks)) (hg : Gl X "len" := by rfl) (he : starEach [a] X.env = (false, eval a X.env) :: starEach [] X.env := by rfl) (hpl : (backTo pos (starEach [] X.env)).any (·.1) = false := by rfl) : PE X (.Call (.Name "len" p) [a] [] pos) (tE X.K O (mOp ks ma dLenU) .fz) :=
  e_blt (orC call_len call_lenR) (s_or s_len s_lenD) B.len (by decide +kernel) ha hg (by decide) (by decide) he hpl
end
theorem orSet {X : Cx} {t t' : TSet} (h : PSet X t) (h' : PSet X t') : PSet X (fun o i v H Q => t o i v H Q ∨ t' o i v H Q) := fun pins s σ H o i v ov iv u Q I ro ri rv q => q.elim (h pins s σ H o i v ov iv u Q I ro ri rv) (h' pins s σ H o i v ov iv u Q I ro ri rv)
def putU (c x d : D) : Option D := match c with
  | .list ds => (match x with
    | .int j => (ixN ds.length j).map fun n => .list (ds.set n d)
    | _ => none)
  | .dict kvs => if kvs.length < 1000000 then (dKey x).map fun k => .dict (putD' k d kvs) else none
  | _ => none
def mPutU (i : Nat) (mi mv : M) : MS := fun ρ => (mv ρ).bind fun p => (mBr i p.2).bind fun _ => (mi p.2).bind fun q => match q.2[i]? with
  | some (some c) => (putU c q.1 p.1).map fun z => (.nx, q.2.set i (some z))
  | _ => none
section
variable {X : Cx} {O : List Kd} {pos : Pos} {e o ix : Expr} {spos : Pos}
theorem putU_go {i : Nat} {k0 : Kd} {c x d z : D} {F3 H3 : Hp} {σ : L2.St} {ρ3 : En} {iv v : V} {pp : Addr} {Q : Hp → Prop} (k1 : O[i]? = some k0) (k2 : k0.own = true) (kl : k0.lock = false) (ok3 : Ok X.K O ⟨F3, H3, σ, ρ3⟩) (g2 : ρ3[i]? = some (some c)) (y1 : sv O H3 σ i = some (some (.ref pp)))
    (r3 : Rp X.K F3 x iv) (rv : Rp X.K F3 d v) (hz : putU c x d = some z) (q : ∀ H', Ok X.K O ⟨F3, H', σ, ρ3.set i (some z)⟩ → Stp O ⟨F3, H3, σ, ρ3⟩ ⟨F3, H', σ, ρ3.set i (some z)⟩ → Q H') : rSetL (.ref pp) iv v H3 Q ∨ rSetD (.ref pp) iv v H3 Q := by
  obtain ⟨p2, y2, y3, oo, y4, y5⟩ := ok3.ow i k0 _ k1 k2 g2
  have y2 : sv O H3 σ i = some (some (.ref p2)) := y2
  rw [y1] at y2
  cases y2
  cases c <;> first | (cases hz; done) | skip
  · rename_i ds
    cases x <;> first | (cases hz; done) | skip
    rename_i j
    obtain ⟨n, g3, rfl⟩ := map_some hz
    obtain ⟨xs, y6, y7⟩ := y5
    subst y6
    have r3 : iv = .int j := r3
    subst r3
    obtain ⟨z1, z2⟩ := ok3.chg (o := .lst (xs.set n v)) (d := .list (ds.set n d)) k1 k2 kl g2 y1 y3 ⟨_, rfl, y7.set rv n⟩
    exact .inl ⟨pp, xs, j, n, rfl, rfl, y4, by rw [y7.length]; exact g3, q _ z1 z2⟩
  · rename_i kvs
    have hz : (if kvs.length < 1000000 then (dKey x).map fun k => PyData.dict (putD' k d kvs) else none) = some z := hz
    split at hz
    · rename_i hlen
      obtain ⟨k, g3, rfl⟩ := map_some hz
      obtain ⟨xs, y6, y7⟩ := y5
      subst y6
      have r3 : iv = kV k := dKey_rp g3 (Rp.vw (H := H3) ok3.sub r3)
      subst r3
      obtain ⟨z1, z2⟩ := ok3.chg (o := .dK (putK xs k v)) (d := .dict (putD' k d kvs)) k1 k2 kl g2 y1 y3 ⟨_, rfl, y7.put rv⟩
      exact .inr ⟨pp, _, rfl, .inl ⟨xs, k, y4, rfl, by rw [y7.length]; exact Nat.lt_of_lt_of_le hlen (by decide), rfl⟩, q _ z1 z2⟩
    · cases hz
theorem s_putU (i : Nat) {mi mv : M} {r : Ak} (hu : X.A.units + 65 < cLine) (hO : mutK O[i]? = true) (ho : PE X o (tE X.K O (mBr i) (.br i))) (hi : PE X ix (tE X.K O mi .fz)) (he : PE X e (tE X.K O mv .fz)) (hs : swapsWithSole [.Subscript o ix spos] e pos.line X.env = pure false := by rfl)
    (hw : swappedStores [.Subscript o ix spos] e X.env = pure none := by rfl) (h1 : (assignEach [.Subscript o ix spos] X.env).map (·.2) = [assign (.Subscript o ix spos) X.env] := by rfl)
    (ha : ∀ v, assign (.Subscript o ix spos) X.env v = (do
      let ov ← holding [v] (eval o X.env)
      let iv ← holding [v, ov] (eval ix X.env)
      standAt spos
      holding [v, ov, iv] (setItem ov iv v)
      release [v, ov, iv] []) := by intro _; rfl) : PS X (.Assign [.Subscript o ix spos] e pos) (tS X.K O (mPutU i mi mv) r) := by
  refine PSi (ps_asg he (pg_sub ho hi (orSet set_list (set_dict (by omega))) ha) hs hw h1) fun Dn σ H ⟨F, ρ, fl, ρ', ok, hm, q⟩ => ?_
  obtain ⟨⟨d1, ρ1⟩, e1, e2⟩ := bind_some hm
  obtain ⟨⟨d2, ρ2⟩, e3, e4⟩ := bind_some e2
  obtain ⟨⟨d3, ρ3⟩, e5, e6⟩ := bind_some e4
  obtain ⟨c, g2, e7⟩ := slot_some e6
  obtain ⟨z, g3, g4⟩ := map_some e7
  cases g4
  have hρ : ρ2 = ρ1 := by
    obtain ⟨_, _, z⟩ := slot_some e3
    cases z
    rfl
  subst hρ
  refine ⟨F, ρ, d1, ρ2, ok, e1, fun v F1 H1 ok1 st1 r1 => ?_⟩
  refine ⟨F1, ρ2, d2, ρ2, ok1, e3, fun o F2 H2 ok2 st2 r2 => ?_⟩
  refine ⟨F2, ρ2, d3, ρ3, ok2, e5, fun iv F3 H3 ok3 st3 r3 => ?_⟩
  have go := (st1.trans st2).trans st3
  obtain ⟨r2, k0, k1, k2⟩ := r2.step st3 rfl
  obtain ⟨pp, y1, _⟩ := ok3.ow i k0 _ k1 k2 g2
  rw [y1] at r2
  cases r2
  have kl : k0.lock = false := by
    rw [k1] at hO
    cases k0 <;> first | rfl | cases hO
  exact putU_go (X := X) k1 k2 kl ok3 g2 y1 r3 (Rp.mono (st2.trans st3).ex _ _ r1) g3 fun H' z1 z2 => q σ F3 H' z1 (go.trans z2)
end
def CDivX (_ j : Int) : Prop := j ≠ 0 ∧ j.natAbs.log2 < 9000
theorem op_fdivX {X : Cx} : OpR X (binaryOp .FloorDiv) (rI CDivX fun i j => .int (i.fdiv j)) := L2.opI fun _ _ _ _ _ _ _ hc q => floordiv_int hc.1 q (.inl (PyProof.noPylong_of_log2 hc.2))
def dDivX := opIc (fun i j => decide (j ≠ 0 ∧ j.natAbs.log2 < 9000)) fun i j => .int (i.fdiv j)
theorem s_divX {K : PySem.W.Frag} : LSem K (rL2 (rI CDivX fun i j => .int (i.fdiv j))) dDivX .fz := sIc (fun i j h => of_decide_eq_true (p := j ≠ 0 ∧ j.natAbs.log2 < 9000) h) fun _ _ _ => rfl
def rIsBA (neg : Bool) : R2 := fun x y H Q => ∃ b : Bool, y = .bl b ∧ Q (.bl (if neg then !decide (x = .bl b) else decide (x = .bl b))) H
theorem op_isB {X : Cx} : OpR X (compareOp .Is) (rIsBA false) := by
  intro pins s σ H x y v u Q I rx ry h
  obtain ⟨b, rfl, q⟩ := h
  cases (show u = Value.bool b from ry)
  by_cases e : x = .bl b
  · subst e
    cases (show v = Value.bool b from rx)
    exact wpAny_is_self rfl ⟨.bl true, H, I, rfl, by simpa using q⟩
  · have q2 : Q (.bl false) H := by simpa [e] using q
    clear q
    have q := q2
    clear q2
    cases x with
    | non => cases (show v = Value.none from rx); exact wpAny_is_other rfl (fun z => by cases z) ⟨.bl false, H, I, rfl, q⟩
    | bl c =>
      cases (show v = Value.bool c from rx)
      exact wpAny_is_other rfl (fun z => by cases z; exact e rfl) ⟨.bl false, H, I, rfl, q⟩
    | int c => obtain ⟨t, rfl⟩ := (show ∃ t, v = Value.int c t from rx); exact wpAny_is_other rfl (fun z => by cases z) ⟨.bl false, H, I, rfl, q⟩
    | str c => obtain ⟨t, rfl⟩ := (show ∃ t, v = Value.str c t from rx); exact wpAny_is_other rfl (fun z => by cases z) ⟨.bl false, H, I, rfl, q⟩
    | byt c => obtain ⟨t, rfl⟩ := (show ∃ t, v = Value.bytes c t from rx); exact wpAny_is_other rfl (fun z => by cases z) ⟨.bl false, H, I, rfl, q⟩
    | flt c => obtain ⟨t, rfl⟩ := (show ∃ t, v = Value.float c t from rx); exact wpAny_is_other rfl (fun z => by cases z) ⟨.bl false, H, I, rfl, q⟩
    | ref c => cases (show v = Value.ref c from rx); exact wpAny_is_other rfl (fun z => by cases z) ⟨.bl false, H, I, rfl, q⟩
    | ty c => cases (show v = Value.type c from rx); exact wpAny_is_other rfl (fun z => by cases z) ⟨.bl false, H, I, rfl, q⟩
def dIsB : List D → Option D
  | [d, .bool b] => some (.bool (match d with | .bool c => decide (c = b) | _ => false))
  | _ => none
theorem vw_bl {K : PySem.W.Frag} {F H : Hp} {b : Bool} : ∀ {d : D} {v : V}, Vw K F H d v → decide (v = V.bl b) = (match d with | .bool c => decide (c = b) | _ => false)
  | .none, _, h => by
    rw [show _ = V.non from h]
    rfl
  | .bool c, _, h => by
    rw [show _ = V.bl c from h]
    by_cases e : c = b <;> simp [e]
  | .int i, _, h => by
    rw [show _ = V.int i from h]
    rfl
  | .str x, _, h => by
    rw [show _ = V.str x from h]
    rfl
  | .list ds, _, ⟨a, xs, e, _⟩ => by
    rw [e]
    rfl
  | .tuple ds, _, ⟨a, xs, e, _⟩ => by
    rw [e]
    rfl
  | .dict ds, _, .inl ⟨a, xs, e, _⟩ => by
    rw [e]
    rfl
  | .dict ds, _, .inr h => by
    obtain ⟨a, e⟩ := h.ref
    rw [e]
    rfl
theorem s_isB {K : PySem.W.Frag} : LSem K (rL2 (rIsBA false)) dIsB .fz := by
  intro F H ds vs d Q s hv ho q
  unfold dIsB at ho
  split at ho
  · rename_i a b
    cases ho
    obtain ⟨v, u, e, h1, h2⟩ := hv.two
    refine ⟨v, u, e, b, h2, q.now s ?_⟩
    show V.bl (decide (v = V.bl b)) = V.bl _
    rw [vw_bl h1]
  · cases ho
theorem hu65 {k : Nat} {A : Around} (r : Room k A) : A.units + 65 < cLine := by
  have := r.un
  omega
def mPar (i j : Nat) (ma : MA) : MS := fun ρ => (ma ρ).bind fun p => match p.1 with
  | [d1, d2] => some (.nx, (p.2.set i (some d1)).set j (some d2))
  | _ => none
section
variable {X : Cx} {O : List Kd} {pos : Pos} {r : Ak}
theorem s_par (i j : Nat) {x y : Str} {a b : Expr} {ma : MA} {px py pt : Pos} {kt k2 pt2} (hN : X.N.Nodup) (ha : PA X [a, b] (tA X.K O ma [.fz, .fz])) (hOi : O[i]? = some Kd.fz := by rfl) (hOj : O[j]? = some Kd.fz := by rfl) (hli : i < nl O := by decide) (hlj : j < nl O := by decide)
    (h0i : hasO O = false ∨ i ≠ oi O := by decide) (h0j : hasO O = false ∨ j ≠ oi O := by decide) (hc : X.calm = true := by rfl) (hi : X.N[i]? = some x := by rfl) (hj : X.N[j]? = some y := by rfl) (hij : i ≠ j := by decide)
    (hx : X.env.scope.names.lookup x = some .local := by rfl) (hy : X.env.scope.names.lookup y = some .local := by rfl)
    (hw : swappedStores [.Tuple [.Name x px, .Name y py] kt pt] (.Tuple [a, b] k2 pt2) X.env = pure (some [x, y]) := by rfl)
    (hs : swapsWithSole [.Tuple [.Name x px, .Name y py] kt pt] (.Tuple [a, b] k2 pt2) pos.line X.env = pure false := by rfl) :
    PS X (.Assign [.Tuple [.Name x px, .Name y py] kt pt] (.Tuple [a, b] k2 pt2) pos) (tS X.K O (mPar i j ma) r) := by
  refine PSi (ps_par hc hN hi hj hij hx hy ha hw hs) fun Dn σ H ⟨F, ρ, fl, ρ', ok, hm, q⟩ => ?_
  obtain ⟨⟨ds, ρ1⟩, e1, e2⟩ := bind_some hm
  match ds, e1, e2 with
  | [d1, d2], e1, e2 =>
    cases e2
    refine ⟨F, ρ, _, ρ1, ok, e1, fun vs F1 H1 ok1 st1 r1 => ?_⟩
    obtain ⟨g1, g2⟩ := r1.fz rfl
    obtain ⟨v, vs1, rfl, rv, g3⟩ := g1
    obtain ⟨w, vs2, rfl, rw1, g4⟩ := g3
    have g4 : vs2 = [] := g4
    subst g4
    refine ⟨v, w, rfl, ?_⟩
    obtain ⟨h1, s1⟩ := ok1.setFz hOi hli h0i rv
    obtain ⟨h2, s2⟩ := h1.setFz hOj hlj h0j rw1
    exact q _ F1 H1 h2 ((st1.trans s1).trans s2)
end
section
variable {X : Cx} {O : List Kd} {pos p : Pos} {a : Expr} {ma : MA} {ks : List Ak}
end
def mTh (i : Nat) (m : MS) : MS := fun ρ => (m (ρ.set i none)).map fun p => (p.1, p.2.set i none)
section
variable {P : Program} {w : World} {K : PySem.W.Frag} {mg : Str → Option Value} {base : Heap} {x : Str} {j k : Nat} {ps : List Str} {sp : Sp} {f : Addr} {fd : FuncData}
theorem FnX.up (h : FnX P w K mg base x j ps sp) (hjk : j ≤ k) : FnX P w K mg base x k ps sp := by
  obtain ⟨f, fd, G, h1, h2, h3⟩ := h.ex
  exact ⟨f, fd, G.up hjk, h1, h2, h3⟩
theorem fnX_none {Oi : List Kd} {r : Ak} (h : ∃ (f : Addr) (fd : FuncData), mg x = some (.ref f) ∧ PySem.W.keepIn K (.ref f) = true ∧ Binds K fd ps []) {mf : En → Option (D × En)} (hm : ∀ ρ, mf ρ = none) : FnX P w K mg base x k ps (spF K Oi mf r) := by
  obtain ⟨f, fd, h1, h2, h3⟩ := h
  have no : ∀ {vs : List V} {H : Hp} {Q : VK} {E : XK}, spF K Oi mf r vs H Q E → False := fun ⟨F, ρ, d, ρ', _, e, _⟩ => by
    rw [hm] at e
    cases e
  exact ⟨f, fd, ⟨fun vs H Q E z => (no z).elim, fun A outer s H args us vs Q E _ _ _ _ _ z => (no z).elim⟩, h1, h2, h3⟩
structure FnXD (P : Program) (w : World) (K : PySem.W.Frag) (mg : Str → Option Value) (base : Heap) (x : Str) (k : Nat) (ps : List Str) (sp : Sp) (dd : List D) : Prop where
  ex : ∃ (f : Addr) (fd : FuncData) (dvs : List V) (ds : List Value), FnG P w K mg base CX0 k f fd ps sp ∧ mg x = some (.ref f) ∧ PySem.W.keepIn K (.ref f) = true ∧ Binds K fd ps ds ∧ Vals dvs ds ∧ ∀ F : Hp, RpA K F dd dvs
theorem FnXD.up {dd : List D} (h : FnXD P w K mg base x j ps sp dd) (hjk : j ≤ k) : FnXD P w K mg base x k ps sp dd := by
  obtain ⟨f, fd, dvs, ds, G, h1, h2, h3⟩ := h.ex
  exact ⟨f, fd, dvs, ds, G.up hjk, h1, h2, h3⟩
theorem fnXD_of {dd : List D} {dvs : List V} (G : FnG P w K mg base CX0 k f fd ps sp) (h1 : mg x = some (.ref f)) (h2 : PySem.W.keepIn K (.ref f) = true) (h3 : ∃ ds, Vals dvs ds ∧ Binds K fd ps ds) (h4 : ∀ F : Hp, RpA K F dd dvs) : FnXD P w K mg base x k ps sp dd := by
  obtain ⟨ds, g1, g2⟩ := h3
  exact ⟨f, fd, dvs, ds, G, h1, h2, g2, g1, h4⟩
theorem binds_nil (h : ∃ ds, Vals [] ds ∧ Binds K fd ps ds) : Binds K fd ps [] := by
  obtain ⟨ds, g1, g2⟩ := h
  cases ds with
  | nil => exact g2
  | cons d ds => cases g1
end
section
variable {X : Cx} {O Oi : List Kd} {mf : En → Option (D × En)} {r : Ak} {x : Str} {p pos : Pos} {e : Expr} {es : List Expr} {ma : MA} {ks : List Ak} {j k : Nat} {ps : List Str} {dd : List D}
theorem e_callXD (h : FnXD X.prog X.w X.K X.mg X.base x k ps (spF X.K Oi mf r) dd) (hgd : X.A.guards = some []) (hr : Room j X.A) (ha : PA X (e :: es) (tA X.K O ma ks)) (hj : k ≤ j := by decide) (hs : sigOk O ks Oi = true := by rfl) (hln : ks.length + dd.length = Oi.length := by rfl) (hnl : noLk Oi = true := by rfl) (n1 : hasO Oi = false := by rfl) (hrr : ∀ i, r ≠ .br i := by exact fun _ z => by cases z)
    (hg : Gl X x := by rfl) (hdb : (x == ("__debug__" : Str)) = false := by decide) (he : starEach (e :: es) X.env = (false, eval e X.env) :: starEach es X.env := by rfl) (hpl : (backTo pos (starEach es X.env)).any (·.1) = false := by rfl) :
    PE X (.Call (.Name x p) (e :: es) [] pos) (tE X.K O (mCall mf ks dd ma) r) := by
  obtain ⟨f, fd, dvs, ds, G, h1, h2, h3, h4, h5⟩ := h.ex
  exact e_callD G hgd (hr.mono hj) h1 h2 h3 h4 h5 ha hs hln hnl n1 hrr hg hdb he hpl
end
section
variable {X : Cx} {O : List Kd} {pos p : Pos} {a : Expr} {ma : MA} {ks : List Ak}
end
section
variable {X : Cx} {O : List Kd} {pos p p2 q : Pos} {a : Expr} {m : M} {ma : MA} {ks : List Ak}
end
open PySem.Froz (TxOk SD sObj tailTx addTx tail_ok add_ok add_x is_str)
section
variable {P : Program} {w : World}
def TxP (P : Program) (w : World) (D : SD) (l : List Str) : Prop := TxOk P w D l ∧ Ris D.2.2.place.toList ∧ (w.params.followText "set-order" = true ∨ D.2.2.led = true)
def TxS (P : Program) (w : World) (h : Heap) (a : Addr) (l : List Str) : Prop := ∃ D : SD, h.get? a = some (sObj "set" D) ∧ TxP P w D l
theorem TxS.at_ {h h' : Heap} {a : Addr} {l : List Str} (R : TxS P w h a l) (k : ∀ o, h.get? a = some o → h'.get? a = some o) : TxS P w h' a l := by
  obtain ⟨D, h1, h2⟩ := R
  exact ⟨D, k _ h1, h2⟩
variable {A : Around} {E : Value → Shared → Prop} {s : Shared}
end
open PySem PySem.Spec PyProof.Rows L2
section
variable {X : Cx}
end
def strsD : List D → Option (List Str)
  | [] => some []
  | .str x :: ds => (strsD ds).map (x :: ·)
  | _ :: _ => none
theorem strsD_v {K : PySem.W.Frag} {F : Hp} : ∀ {ds : List D} {xs : List Str} {vs : List V}, strsD ds = some xs → RpA K F ds vs → vs = xs.map V.str ∧ ds = xs.map PyData.str
  | [], xs, vs, e, h => by
    cases e
    cases h
    exact ⟨rfl, rfl⟩
  | d :: ds, xs, vs, e, ⟨u, us, e2, h1, h2⟩ => by
    cases d <;> first | (cases e; done) | skip
    obtain ⟨ys, e3, e4⟩ := map_some e
    subst e4 e2
    obtain ⟨a, b⟩ := strsD_v e3 h2
    have h1 : u = .str _ := h1
    subst h1 a b
    exact ⟨rfl, rfl⟩
theorem strsD_map : ∀ (xs : List Str), strsD (xs.map PyData.str) = some xs
  | [] => rfl
  | x :: xs => by
    show (strsD (xs.map PyData.str)).map _ = _
    rw [strsD_map xs]
    rfl
theorem rpA_strs {K : PySem.W.Frag} {F : Hp} : ∀ (xs : List Str), RpA K F (xs.map PyData.str) (xs.map V.str)
  | [] => rfl
  | x :: xs => ⟨.str x, xs.map V.str, rfl, rfl, rpA_strs xs⟩
section
variable {X : Cx} {O : List Kd} {pos p p2 q : Pos} {a : Expr} {m : M}
end
structure FnXN (P : Program) (w : World) (K : PySem.W.Frag) (mg : Str → Option Value) (base : Heap) (x : Str) (k : Nat) (ps : List Str) (sp : Sp) (n : Nat) (ks : List Str) (gD : List D → List D) : Prop where
  ex : ∃ (f : Addr) (fd : FuncData) (g : List Value → List Value → List Value) (gV : List V → List V), FnG P w K mg base CX0 k f fd ps sp ∧ mg x = some (.ref f) ∧ PySem.W.keepIn K (.ref f) = true ∧ KBn K fd ps n ks g (fun vs zs => vs ++ gV zs) ∧
    ∀ (F : Hp) (es : List D) (zs : List V), es.length = ks.length → RpA K F es zs → RpA K F (gD es) (gV zs)
section
variable {P : Program} {w : World} {K : PySem.W.Frag} {mg : Str → Option Value} {base : Heap} {x : Str} {j k n : Nat} {ps ns : List Str} {sp : Sp} {gD : List D → List D}
theorem FnXN.up (h : FnXN P w K mg base x j ps sp n ns gD) (hjk : j ≤ k) : FnXN P w K mg base x k ps sp n ns gD := by
  obtain ⟨f, fd, g, gV, G, h1, h2, h3, h4⟩ := h.ex
  exact ⟨f, fd, g, gV, G.up hjk, h1, h2, h3, h4⟩
end
section
variable {K : PySem.W.Frag} {O : List Kd} {w w' : Wd}
theorem Rss.app : ∀ {ks kz : List Ak} {ds es : List D} {vs zs : List V}, Rss K O w w' ks ds vs → Rss K O w w' kz es zs → Rss K O w w' (ks ++ kz) (ds ++ es) (vs ++ zs)
  | [], _, _, _, _, _, ⟨h1, h2⟩, h => by
    subst h1 h2
    exact h
  | k :: ks, kz, _, es, _, zs, ⟨d, ds', v, vs', h1, h2, h3, h4⟩, h => by
    subst h1 h2
    exact ⟨d, ds' ++ es, v, vs' ++ zs, rfl, rfl, h3, h4.app h⟩
end
section
variable {X : Cx} {CX : CXT} {j k n : Nat} {f : Addr} {fd : FuncData} {ps ns : List Str} {sp : Sp} {E : XK} {x : Str} {p pos : Pos} {e : Expr} {es : List Expr} {kws : List Keyword} {t tk : TA} {g : List Value → List Value → List Value} {gV : List V → List V → List V}
end
section
variable {X : Cx} {j k n : Nat} {ps ns : List Str} {O Oi : List Kd} {mf : En → Option (D × En)} {r : Ak} {x : Str} {p pos : Pos} {e : Expr} {es : List Expr} {kws : List Keyword} {ma mk : MA} {ks kk kz : List Ak} {gD : List D → List D}
end
abbrev Rx := D ⊕ Str
abbrev MX := En → Option (Rx × En)
abbrev MSX := En → Option ((Fl ⊕ Str) × En)
structure FnXx (P : Program) (w : World) (K : PySem.W.Frag) (mg : Str → Option Value) (base : Heap) (x : Str) (k : Nat) (ps : List Str) (sp : Sp) : Prop where
  ex : ∃ (f : Addr) (fd : FuncData), FnG P w K mg base (L2.CX P w) k f fd ps sp ∧ mg x = some (.ref f) ∧ PySem.W.keepIn K (.ref f) = true ∧ Binds K fd ps []
section
variable {X : Cx} {K : PySem.W.Frag} {O Oi Ol : List Kd} {W : WX} {e a b : Expr} {es : List Expr} {st : Stmt} {rest sts : List Stmt} {m mb : M} {mx my : MX} {ma : MA} {ms : MS} {sa sb : MSX} {mf : MX} {t : MT} {ks : List Ak} {r k : Ak} {x : Str} {p pos : Pos} {j n i : Nat} {ps : List Str} {dd : List D} {dvs : List V} {ds : List Value} {tc : Expr}
end
section
variable {P : Program} {w : World} {K : PySem.W.Frag} {mg : Str → Option Value} {base : Heap} {f : Addr} {fd : FuncData}
end
structure ExT (K : PySem.W.Frag) (mg : Str → Option Value) (c : Str) : Prop where
  g : mg c = some (clsV K c)
  ex : PySem.W.excIn K (He.ga K c) rtTail "RuntimeError.__new__" = true
  kp : PySem.W.keepIn K (clsV K c) = true
  sub : PySem.W.subIn K (clsV K c) (.type "BaseException") = some true
  ty : PySem.W.typeIn K (clsV K c) = some (.type "type")
def HasE (K : PySem.W.Frag) (H : Hp) (a : Addr) (c : Str) : Prop := ∃ oe : Obj, Zc (clsV K c) none oe ∧ (∃ vs, oe.data = .fields vs) ∧ H a = some (.frz oe (.own a))
theorem HasE.mono {K : PySem.W.Frag} {H H' : Hp} {a : Addr} {c : Str} (h : HasE K H a c) (s : Same H H') : HasE K H' a c := by
  obtain ⟨oe, h1, h2, h3⟩ := h
  exact ⟨oe, h1, h2, s _ _ h3⟩
structure ExW (K : PySem.W.Frag) (mg : Str → Option Value) (c : Str) : Prop where
  six : c ∈ sixX
  cls : ExcC K (He.ga K c)
  mill : PySem.W.exmOne K (clsV K c) (clsV K "MillError") = some true
  run : PySem.W.kitOne K (clsV K c) (.type "RuntimeError") = some true
  all : ∀ t, t ∈ eightX → PySem.W.kitOne K (clsV K c) (clsV K t) = some (decide (t = c))
structure ExM (K : PySem.W.Frag) (mg : Str → Option Value) : Prop where
  mill : mg "MillError" = some (clsV K "MillError")
  run : mg "RuntimeError" = none
  all : ∀ t, t ∈ eightX → mg t = some (clsV K t)
section
variable {P : Program} {w : World} {K : PySem.W.Frag} {mg : Str → Option Value} {base : Heap} {f : Addr} {fd : FuncData}
end
section
variable {K : PySem.W.Frag} {mg : Str → Option Value} {H : Hp} {a : Addr} {c : Str} {Q : VK}
end
section
variable {X : Cx} {pins : List (Addr × Obj)} {σ : L2.St} {H : Hp} {s : Shared}
end
section
variable {X : Cx} {x n y : Str} {c : Value} {i j : Nat} {body : List Stmt} {np pos pos' p1 p2 p3 : Pos} {tb : WX → TS}
end
section
variable {K : PySem.W.Frag} {mg : Str → Option Value} {xc : List Str} {f1 : MX} {F H : Hp} {σ : L2.St} {Q : VK}
end
structure FnXNx (P : Program) (w : World) (K : PySem.W.Frag) (mg : Str → Option Value) (base : Heap) (x : Str) (k : Nat) (ps : List Str) (sp : Sp) (n : Nat) (ks : List Str) (gD : List D → List D) : Prop where
  ex : ∃ (f : Addr) (fd : FuncData) (g : List Value → List Value → List Value) (gV : List V → List V), FnG P w K mg base (L2.CX P w) k f fd ps sp ∧ mg x = some (.ref f) ∧ PySem.W.keepIn K (.ref f) = true ∧ KBn K fd ps n ks g (fun vs zs => vs ++ gV zs) ∧
    ∀ (F : Hp) (es : List D) (zs : List V), es.length = ks.length → RpA K F es zs → RpA K F (gD es) (gV zs)
structure FnXDx (P : Program) (w : World) (K : PySem.W.Frag) (mg : Str → Option Value) (base : Heap) (x : Str) (k : Nat) (ps : List Str) (sp : Sp) (dd : List D) : Prop where
  ex : ∃ (f : Addr) (fd : FuncData) (dvs : List V) (ds : List Value), FnG P w K mg base (L2.CX P w) k f fd ps sp ∧ mg x = some (.ref f) ∧ PySem.W.keepIn K (.ref f) = true ∧ Binds K fd ps ds ∧ Vals dvs ds ∧ ∀ F : Hp, RpA K F dd dvs
section
variable {X : Cx} {CX : CXT} {j k n : Nat} {f : Addr} {fd : FuncData} {ps ns : List Str} {sp : Sp} {E : L2.St → XK} {x : Str} {p pos : Pos} {e : Expr} {es : List Expr} {kws : List Keyword} {t tk : TA} {g : List Value → List Value → List Value} {gV : List V → List V → List V}
end
section
variable {X : Cx} {W : WX} {j k n : Nat} {ps ns : List Str} {O Oi : List Kd} {mf : MX} {r : Ak} {x : Str} {p pos : Pos} {e : Expr} {es : List Expr} {kws : List Keyword} {ma mk : MA} {ks kk kz : List Ak} {gD : List D → List D} {dd : List D}
end
abbrev MR := En → Option (Str × En)
structure GlX (K : PySem.W.Frag) (mg : Str → Option Value) (x : Str) : Prop where
  ex : ∃ a : Addr, mg x = some (.ref a) ∧ PySem.W.keepIn K (.ref a) = true
structure MkXr (P : Program) (w : World) (K : PySem.W.Frag) (mg : Str → Option Value) (base : Heap) (c : Str) (k : Nat) (ps : List Str) (sp : Sp) : Prop where
  mkr : Mk K (He.ga K c) (He.ma K (He.ga K c) "__init__")
  gl : mg c = some (.ref (He.ga K c))
  ex : ∃ fd : FuncData, FnG P w K mg base (L2.CX P w) k (He.ma K (He.ga K c) "__init__") fd ps sp ∧ Binds K fd ps []
section
variable {X : Cx} {K : PySem.W.Frag} {O Oi : List Kd} {W : WX} {e o : Expr} {es : List Expr} {m : M} {mx : MX} {mr : MR} {ma : MA} {mf : MX} {ks : List Ak} {k : Ak} {x c : Str} {p pos apos : Pos} {j n : Nat} {ps : List Str}
end
structure MkXm (P : Program) (w : World) (K : PySem.W.Frag) (mg : Str → Option Value) (base : Heap) (c : Str) (k : Nat) (ps : List Str) (sp : Sp) : Prop where
  mkr : Mk K (He.ga K c) (He.ma K (He.ga K c) "__init__")
  gl : mg c = some (.ref (He.ga K c))
  ex : ∃ fd : FuncData, FnG P w K mg base (L2.CX P w) k (He.ma K (He.ga K c) "__init__") fd ps sp ∧ Binds K fd ps []
section
variable {P : Program} {w : World} {K : PySem.W.Frag} {mg : Str → Option Value} {base : Heap} {f : Addr} {fd : FuncData}
end
section
variable {X : Cx} {O Oi O' : List Kd} {W : WX} {k j n : Nat} {ps : List Str} {mf : MX} {r : Ak} {x c : Str} {p pos pos' spos apos : Pos} {e : Expr} {es : List Expr} {ma : MA} {ks : List Ak} {rest : List Stmt} {mm : MSX}
end
section
variable {X : Cx} {O Oi : List Kd} {c f mn : Str} {pos apos : Pos} {e o : Expr} {es : List Expr} {m mo : M} {ma : MA} {ks : List Ak} {k j : Nat} {ps : List Str} {mf : En → Option (D × En)}
end
section
variable {X : Cx} {O Oi : List Kd} {W : WX} {k j : Nat} {ps : List Str} {mf : MX} {c : Str} {p pos : Pos} {e : Expr} {es : List Expr} {ma : MA} {ks : List Ak}
end
section
variable {X : Cx} {O Oi : List Kd} {k j : Nat} {ps : List Str} {mf : En → Option (D × En)} {c : Str} {p pos : Pos} {e : Expr} {m : M}
end
structure IsC (K : PySem.W.Frag) (mg : Str → Option Value) (c : Str) : Prop where
  gl : mg c = some (.ref (He.ga K c))
  cl : Cls K (He.ga K c)
  ha : PySem.W.findIn K (.ref (He.ga K c)) "__class__" = some (some (.builtin "object.__class__"))
  hn : PySem.W.specialIn K (.builtin "object.__class__") "__get__" = some (some (.builtin "getset_descriptor.__get__"))
  htk : PySem.W.takesIn K (.builtin "object.__class__") = some true
  hm : PySem.W.mroIn K (He.ga K c) (.type "object") = some true
  ty : ((PySem.W.clsIn K (He.ga K c)).isSome && PySem.W.typeIn K (.ref (He.ga K c)) == some (.type "type")) = true
section
variable {X : Cx} {O : List Kd} {c : Str} {p q pos : Pos} {e : Expr} {m : M} {ka : Ak}
end
section
variable {X : Cx} {CX : CXT} {k : Nat} {f C : Addr} {fd : FuncData} {ps : List Str} {sp : Sp} {E : XK}
end
section
variable {X : Cx} {O Oi : List Kd} {k j : Nat} {ps : List Str} {mf : En → Option (D × En)} {c : Str} {pos : Pos} {a b : Expr} {ma mb : M}
end
section
variable {X : Cx} {O : List Kd} {e : Expr} {m : M} {pos p2 : Pos} {j : Nat} {c : Bool}
end
section
variable {X : Cx} {e : Expr} {te : TE} {p apos cpos pos : Pos}
end
section
variable {X : Cx} {O : List Kd} {e : Expr} {m : M} {p apos cpos pos : Pos}
end
section
variable {X : Cx} {O : List Kd} {o e f : Expr} {apos cpos : Pos} {ka : Ak} {m mb mc : M}
end
section
variable {X : Cx} {O : List Kd} {pos p : Pos} {a b : Expr} {ma : MA} {ks : List Ak}
end
section
variable {X : Cx} {O : List Kd} {pos p : Pos} {a b : Expr} {ma : MA} {ks : List Ak}
end
section
variable {K : PySem.W.Frag} {O : List Kd}
structure New (K : PySem.W.Frag) (O : List Kd) (w0 w : Wd) (p : Addr) (d : D) : Prop where
  f : w.F p = none
  o : OwnO K w.F w.H p d
  np : ¬ Fp O w p
  old : Fp O w0 p ∨ w0.H p = none
  nb : hasO O = true → p ≠ ob O w.σ
theorem New.put {w0 : Wd} {F H : Hp} {σ : L2.St} {ρ : En} {p : Addr} {d : D} {i : Nat} (ok : Ok K O ⟨F, H, σ, ρ⟩) (st : StpS O w0 ⟨F, H, σ, ρ⟩) (n : New K O w0 ⟨F, H, σ, ρ⟩ p d) (hO : O[i]? = some Kd.ow) (hl : i < nl O) (h0 : hasO O = false ∨ i ≠ oi O) :
    Ok K O ⟨F, H, σ.set i (some (.ref p)), ρ.set i (some d)⟩ ∧ StpS O w0 ⟨F, H, σ.set i (some (.ref p)), ρ.set i (some d)⟩ ∧ ∀ q e, q ≠ p → New K O w0 ⟨F, H, σ, ρ⟩ q e → New K O w0 ⟨F, H, σ.set i (some (.ref p)), ρ.set i (some d)⟩ q e := by
  obtain ⟨h1, h2, h3, h4⟩ := ok.setOw (p := p) hO hl h0 n.f n.o n.np n.nb
  refine ⟨h1, ⟨st.ex, st.kp, st.nw, fun b hb => ?_, fun j kk g1 g2 => (h3 j kk g1 g2).1.trans (st.pn j kk g1 g2), fun j kk g1 g2 => ?_, st.lo, fun e => ⟨(h4 e).trans (st.o0 e).1, (st.o0 e).2⟩, st.tb⟩, fun q e hq nq => ⟨nq.f, nq.o, fun hb => ?_, nq.old, fun z => ?_⟩⟩
  · rcases h2 b hb with z | z
    · rw [z]
      exact n.old
    · exact st.fp b z
  · have gp : kk.pin = true := by
      cases kk <;> first | rfl | cases g2
    exact (h3 j kk g1 gp).2.trans (st.lk j kk g1 g2)
  · rcases h2 q hb with z | z
    · exact hq z
    · exact nq.np z
  · show q ≠ ob O (σ.set i (some (.ref p)))
    rw [h4 z]
    exact nq.nb z
end
section
variable {X : Cx} {O : List Kd} {pos pt pv p1 p2 p3 p4 : Pos} {ct cv : Nat} {x1 x2 x3 x4 : Str} {e1 e2 e3 e4 : Expr} {m1 m2 m3 m4 : M} {r : Ak}
end
section
variable {X : Cx} {O : List Kd} {pos pt pv p1 p2 : Pos} {kt k2 : Nat} {x y : Str} {e1 e2 : Expr} {m1 m2 : M} {r : Ak}
end
section
variable {X : Cx} {CX : CXT} {k : Nat} {f : Addr} {fd : FuncData} {ps : List Str} {sp : Sp} {E : XK} {x : Str} {p pos : Pos}
end
section
variable {X : Cx} {O : List Kd} {mf : En → Option (D × En)} {r : Ak} {x : Str} {p pos : Pos} {j k : Nat} {ps : List Str}
end
def ExtC (C : List Addr) (F : Hp) : Prop := ∀ c ∈ C, ∃ φ, F c = some (.ext φ)
section
variable {K : PySem.W.Frag} {F : Hp} {C : List Addr}
end
def ObC (C : List (Addr × Obj)) (F : Hp) : Prop := ∀ p ∈ C, F p.1 = some (ObO p.1 p.2)
theorem ObC.ext {C : List (Addr × Obj)} {F : Hp} (h : ObC C F) : ExtC (C.map (·.1)) F := fun c hc => by
  obtain ⟨p, hp, e⟩ := List.mem_map.mp hc
  subst e
  exact ⟨_, h p hp⟩
theorem ObC.mono {C : List (Addr × Obj)} {F F' : Hp} (h : ObC C F) (s : Same F F') : ObC C F' := fun p hp => s _ _ (h p hp)
section
variable {P : Program} {w : World} {K : PySem.W.Frag} {mg : Str → Option Value} {base : Heap} {A : Around} {outer : List Env} {s : Shared} {H H' : Hp} {C : List (Addr × Obj)} {h : Heap}
end
structure Apps (P : Program) (w : World) (K : PySem.W.Frag) (mg : Str → Option Value) (base : Heap) (k : Nat) (app : D → List D → Option D) : Prop where
  go : ∀ fd ds d, app fd ds = some d → ∀ (F : Hp) (v : V), Rp K F fd v → ∃ (f : Addr) (l : Bool), v = .ref f ∧
    ∀ A outer s H F1, Env0 P w K mg base A outer s H → Same F F1 → Same F1 H → ((l = true → PySem.W.FnAt f s.heap) ∧ (l = false → PySem.W.keepIn K (.ref f) = true)) ∧
      ∀ us vs Q, A.guards = some [] → Room k A → (∀ T, T ∈ tabsOf K → LamX.TabS H T qU ∧ F1 T = none) → RpA K F1 ds vs → Vals vs us → (∀ v' F' H', Pur F1 H F' H' → Rp K F' d v' → Q v' H') →
        codeAny (model P w) A (.call (.ref f) ⟨us, []⟩) (CR CX0 outer P w H s Q E0) s
def appOr (a b : D → List D → Option D) : D → List D → Option D := fun fd ds => match a fd ds with
  | some d => some d
  | none => b fd ds
section
variable {P : Program} {w : World} {K : PySem.W.Frag} {mg : Str → Option Value} {base : Heap} {k j : Nat} {a b app : D → List D → Option D}
theorem Apps.up (h : Apps P w K mg base j app) (l : j ≤ k) : Apps P w K mg base k app := ⟨fun fd ds d e F v r => by
  obtain ⟨f, l', e1, g⟩ := h.go fd ds d e F v r
  exact ⟨f, l', e1, fun A outer s H F1 e0 s1 s2 => ⟨(g A outer s H F1 e0 s1 s2).1, fun us vs Q gd hr => (g A outer s H F1 e0 s1 s2).2 us vs Q gd (hr.mono l)⟩⟩⟩
theorem Apps.or (h : Apps P w K mg base k a) (g : Apps P w K mg base k b) : Apps P w K mg base k (appOr a b) := ⟨fun fd ds d e => by
  unfold appOr at e
  split at e
  · rename_i d' e'
    cases e
    exact h.go fd ds d e'
  · exact g.go fd ds d e⟩
end
structure LamP (N : List Str) (sc : Scope) : Prop where
  kind : sc.kind = .function
  co : sc.isCoroutine = false
  gen : sc.isGenerator = false
  nd : N.Nodup
  ne : N ≠ []
  own : ∀ y ∈ sc.names, y.2 ≠ .cell
  loc : ∀ y, N.head? = some y → sc.names.lookup y = some .local
  fre : ∀ y ∈ N.tail, sc.names.lookup y = some .free
  all : ∀ y ∈ sc.names, y.2 = .free → y.1 ∈ N.tail
def Cells (h : Heap) : List Str → List (Str × Addr) → List V → Prop
  | [], cl, vs => cl = [] ∧ vs = []
  | y :: ys, cl, vs => ∃ c cr v vr u, cl = (y, c) :: cr ∧ vs = v :: vr ∧ RelV v u ∧ h.IsCell c (some u) ∧ Cells h ys cr vr
theorem Cells.keys {h : Heap} : ∀ {ys : List Str} {cl : List (Str × Addr)} {vs : List V}, Cells h ys cl vs → cl.map (·.1) = ys
  | [], _, _, ⟨e, _⟩ => by
    rw [e]
    rfl
  | y :: ys, _, _, ⟨c, cr, v, vr, u, e1, e2, r, k, t⟩ => by
    rw [e1, List.map_cons, t.keys]
theorem Cells.len {h : Heap} : ∀ {ys : List Str} {cl : List (Str × Addr)} {vs : List V}, Cells h ys cl vs → vs.length = ys.length
  | [], _, _, ⟨_, e⟩ => by
    rw [e]
    rfl
  | y :: ys, _, _, ⟨c, cr, v, vr, u, e1, e2, r, k, t⟩ => by
    rw [e2, List.length_cons, List.length_cons, t.len]
theorem Cells.mem {h : Heap} : ∀ {ys : List Str} {cl : List (Str × Addr)} {vs : List V} {y : Str} {c : Addr}, Cells h ys cl vs → (y, c) ∈ cl → ∃ u, h.IsCell c (some u)
  | [], _, _, _, _, ⟨e, _⟩, m => by
    rw [e] at m
    exact (List.not_mem_nil m).elim
  | y :: ys, _, _, _, _, ⟨c, cr, v, vr, u, e1, e2, r, k, t⟩, m => by
    rw [e1] at m
    rcases List.mem_cons.mp m with z | z
    · cases z
      exact ⟨u, k⟩
    · exact t.mem z
theorem Cells.at {h : Heap} : ∀ {ys : List Str} {cl : List (Str × Addr)} {vs : List V} {i : Nat} {y : Str} {v : V}, Cells h ys cl vs → ys.Nodup → ys[i]? = some y → vs[i]? = some v → ∃ c u, cl.lookup y = some c ∧ RelV v u ∧ h.IsCell c (some u)
  | [], _, _, i, _, _, _, _, e, _ => by simp at e
  | y :: ys, _, _, 0, y', v', ⟨c, cr, v, vr, u, e1, e2, r, k, t⟩, nd, a, b => by
    subst e1 e2
    have a : y = y' := by simpa using a
    have b : v = v' := by simpa using b
    subst a b
    exact ⟨c, u, by simp [List.lookup], r, k⟩
  | y :: ys, _, _, i + 1, y', v', ⟨c, cr, v, vr, u, e1, e2, r, k, t⟩, nd, a, b => by
    subst e1 e2
    have a : ys[i]? = some y' := by simpa using a
    have b : vr[i]? = some v' := by simpa using b
    obtain ⟨nd1, nd2⟩ := List.nodup_cons.mp nd
    obtain ⟨c2, u2, g1, g2, g3⟩ := t.at nd2 a b
    refine ⟨c2, u2, ?_, g2, g3⟩
    have hne : (y' == y) = false := by
      rw [beq_eq_false_iff_ne]
      intro z
      rw [z] at a
      exact nd1 (List.mem_of_getElem? a)
    rw [List.lookup_cons, hne]
    exact g1
theorem Cells.kept {h h' : Heap} (k : ∀ b o, h.get? b = some o → h'.get? b = some o) : ∀ {ys : List Str} {cl : List (Str × Addr)} {vs : List V}, Cells h ys cl vs → Cells h' ys cl vs
  | [], _, _, e => e
  | y :: ys, _, _, ⟨c, cr, v, vr, u, e1, e2, r, ⟨o, k1, k2⟩, t⟩ => ⟨c, cr, v, vr, u, e1, e2, r, ⟨o, k _ _ k1, k2⟩, t.kept k⟩
section
variable {P : Program} {w : World} {K : PySem.W.Frag} {mg : Str → Option Value} {base : Heap} {A : Around} {outer : List Env} {s : Shared} {H : Hp} {N : List Str} {sc : Scope} {f c' : Addr} {cl : List (Str × Addr)} {h₁ : Heap} {tk : Nat} {y0 : Str} {ys : List Str} {v0 : V} {u0 : Value} {vs : List V}
end
section
variable {P : Program} {w : World} {K : PySem.W.Frag} {mg : Str → Option Value} {base : Heap} {k n : Nat} {ps : Arguments} {b : Expr} {sc : Scope} {y0 : Str} {ys : List Str} {m : M} {Ol : List Kd}
end
section
variable {X : Cx} {O : List Kd} {x : Str} {p pos : Pos} {j k i : Nat} {e : Expr} {es : List Expr} {app : D → List D → Option D} {ma : MA} {ks : List Ak}
end
section
variable {X : Cx} {pins : List (Addr × Obj)} {σ : L2.St} {H : Hp} {s : Shared} {c P : Addr} {pr : Arguments} {bd : Expr} {sc : Scope} {pos : Pos}
end
def capOk (X : Cx) (O : List Kd) : List Str → List Nat → Prop
  | [], [] => True
  | y :: ys, j :: js => X.N[j]? = some y ∧ O[j]? = some Kd.fz ∧ j < nl O ∧ X.env.scope.names.lookup y = some .cell ∧ X.fn y = true ∧ capOk X O ys js
  | _, _ => False
theorem capOk.cell {X : Cx} {O : List Kd} : ∀ {ys : List Str} {js : List Nat}, capOk X O ys js → ∀ y ∈ ys, X.env.scope.names.lookup y = some .cell
  | [], _, _, y, m => (List.not_mem_nil m).elim
  | y0 :: ys, [], h, _, _ => h.elim
  | y0 :: ys, j :: js, ⟨h1, h2, h3, h4, h5, h6⟩, y, m => by
    rcases List.mem_cons.mp m with z | z
    · rw [z]
      exact h4
    · exact h6.cell y z
section
variable {X : Cx} {O : List Kd} {x : Str} {p lp pos : Pos} {j k n : Nat} {e : Expr} {m : M} {ys : List Str} {js : List Nat} {mf : En → Option (D × En)} {pr : Arguments} {bd : Expr} {sc : Scope} {c P : Addr} {fps : List Str}
end
def CdK (K : PySem.W.Frag) (f : Addr) (cd : Value) : Prop := ∃ oc od fd osl, K.lookup f = some ⟨oc, od, .func fd, osl⟩ ∧ fd.code = cd
section
variable {P : Program} {w : World} {K : PySem.W.Frag} {mg : Str → Option Value} {base : Heap} {CX : CXT} {f : Addr} {fd : FuncData}
end
structure LamU (K : PySem.W.Frag) (base : Heap) (mg : Str → Option Value) (c P : Addr) : Prop where
  tab : LamX.TabB base mg c P
  mem : P ∈ tabsOf K
  code : ∀ cd, CdK K (He.ma K (He.ga K "Units") "__init__") cd → cd = .ref c
section
variable {X : Cx} {O Oi : List Kd} {k j : Nat} {ps : List Str} {mf : En → Option (D × En)} {c x : Str} {p pos : Pos} {e : Expr} {es : List Expr} {ma : MA} {ks : List Ak}
end
section
variable {X : Cx} {O : List Kd} {pos p apos : Pos} {a e : Expr} {es : List Expr} {m : M} {ma : MA} {ks : List Ak}
end
section
variable {X : Cx} {O : List Kd} {pos p p2 pos2 apos spos sp : Pos} {a e o : Expr} {es : List Expr} {m : M} {ma : MA} {ks : List Ak}
end
section
variable {X : Cx} {O : List Kd} {pos spos sp : Pos} {o e : Expr} {lo hi : Option Expr} {to : TE} {tl th : TO}
end
open PySem in
section
variable {X : Cx}
end
open PySem PySem.Spec PyProof.Rows L2
section
variable {X : Cx} {O : List Kd} {ka : Ak} {p pos : Pos} {e : Expr} {m : M}
end
def strOf : D → Option Str
  | .str y => some y
  | _ => none
theorem strOf_some {d : D} {y : Str} (h : strOf d = some y) : d = .str y := by
  cases d <;> cases h
  rfl
def mJs : List M → Str → M
  | [], acc => fun ρ => some (.str acc, ρ)
  | m :: ms, acc => fun ρ => (m ρ).bind fun p => (strOf p.1).bind fun y => if (acc ++ y).length ≤ 100000 then mJs ms (acc ++ y) p.2 else none
section
variable {X : Cx} {O : List Kd}
theorem js_of : ∀ (ms : List M) (acc : Str) {σ : L2.St} {H : Hp} {Q : VK}, tE X.K O (mJs ms acc) .fz σ H Q → tJs (ms.map fun m => tE X.K O m .fz) acc σ H fun out H1 => Q (.str out) H1
  | [], acc, σ, H, Q, ⟨F, ρ, d, ρ', ok, hm, q⟩ => by
    cases hm
    exact q (.str acc) F H ok (.refl _ _) rfl
  | m :: ms, acc, σ, H, Q, ⟨F, ρ, d, ρ', ok, hm, q⟩ => by
    obtain ⟨⟨d1, ρ1⟩, e1, e2⟩ := bind_some hm
    obtain ⟨y, e3, e4⟩ := Option.bind_eq_some_iff.mp e2
    split at e4
    · rename_i hl
      obtain rfl := strOf_some e3
      refine ⟨F, ρ, _, ρ1, ok, e1, fun v F1 H1 ok1 st1 r1 => ?_⟩
      have r1 : v = .str y := r1
      subst r1
      exact ⟨y, rfl, Nat.le_trans hl (by decide), js_of ms _ ⟨F1, ρ1, d, ρ', ok1, e4, fun v F2 H2 ok2 st2 r2 => q v F2 H2 ok2 (st1.trans st2) (r2.pre st1.toStpS)⟩⟩
    · cases e4
theorem j_nil : PJ X [] (([] : List M).map fun m => tE X.K O m .fz) := PJ.nil
theorem j_cons {e : Expr} {es : List Expr} {m : M} {ms : List M} (h : PE X e (tE X.K O m .fz)) (r : PJ X es (ms.map fun m => tE X.K O m .fz)) : PJ X (e :: es) ((m :: ms).map fun m => tE X.K O m .fz) := PJ.cons h r
theorem e_joined {v1 v2 : Expr} {rest : List Expr} {ms : List M} {pos : Pos} (h : PJ X (v1 :: v2 :: rest) (ms.map fun m => tE X.K O m .fz)) : PE X (.JoinedStr (v1 :: v2 :: rest) pos) (tE X.K O (mJs ms Str.empty) .fz) :=
  PEi (pe_joined h) fun _ _ _ h => js_of ms _ h
theorem e_fmt {ka : Ak} {p : Pos} {e : Expr} {m : M} (hgd : X.A.guards = some []) (hu : X.A.units + 65 < cLine) (he : PE X e (tE X.K O m ka)) : PE X (.FormattedValue e (-1) none p) (tE X.K O (m1 ka m dShow) .fz) := by
  refine PEi (t := tUn (rShow X.K) (tE X.K O m ka)) ⟨fun pins s σ H Q I h => ?_⟩ fun _ _ _ h => tUn_of s_show h
  refine wpAny_FormattedValue_plain (thn (he.run pins s σ H _ I h) fun u s1 hv => ?_)
  obtain ⟨x, H1, I1, r1, hx⟩ := hv
  rcases hx with ⟨a, d, rfl, dp, hs, q⟩ | ⟨y, rfl, hs, q⟩ | ⟨i, rfl, hs, q⟩ | ⟨b, rfl, q⟩ | ⟨rfl, q⟩
  rotate_left
  · obtain ⟨t, rfl⟩ := r1
    exact wpAny_formatField_str ⟨.str y, H1, I1, ⟨t, rfl⟩, q⟩ ⟨.str y, H1, I1.tok _, ⟨_, rfl⟩, q⟩ (Nat.le_trans hs (by decide))
  · obtain ⟨t, rfl⟩ := r1
    exact wpAny_formatField_int hs ⟨.str (Str.ofString (toString i)), H1, I1.tok _, ⟨_, rfl⟩, q⟩
  · have r1 : u = Value.bool b := r1
    subst r1
    exact wpAny_formatField_bool ⟨.str (if b then ("True" : Str) else "False"), H1, I1.tok _, ⟨_, rfl⟩, q⟩
  · have r1 : u = Value.none := r1
    subst r1
    exact wpAny_formatField_none ⟨.str "None", H1, I1.tok _, ⟨_, rfl⟩, q⟩
  obtain ⟨as, rd⟩ := Dp.reads I1 d _ u dp r1
  have hua : u = Value.ref a := r1
  subst hua
  unfold showOk at hs
  simp only [Bool.and_eq_true, Bool.not_eq_true', decide_eq_true_eq] at hs
  obtain ⟨⟨⟨h1, h2⟩, h3⟩, h4⟩ := hs
  exact formatField_of_reads rd h1 (fun z => by rw [h2] at z; cases z) hgd (by omega) (fun _ _ z => z) (fun h' u tk hk => ⟨.str d.shown, H1, I1.kept (t' := tk) hk, ⟨u, rfl⟩, q⟩) (Nat.le_trans h4 (by decide))
end
def mTx1 (m : M) (kb : Ak) (mb : M) (op : Str → List D → Option D) : M := fun ρ => (m ρ).bind fun p => (strOf p.1).bind fun a => m1 kb mb (op a) p.2
def dJoinA (a : Str) : List D → Option D
  | [.list ds] => (strsD ds).bind fun ys => if (ys.map (·.length)).sum + ys.length * a.length ≤ 16777216 then some (.str (Str.join a ys)) else none
  | _ => none
def dSplitA (a : Str) : List D → Option D
  | [.str b] => if (b.length == 0) = false ∧ a.length ≤ 100000 then some (.list ((Txt.split a b).map PyData.str)) else none
  | _ => none
def dLower : List D → Option D
  | [.str a] => if a.length ≤ 100000 then some (.str (Txt.lower a)) else none
  | _ => none
def mJoin (m : M) (kb : Ak) (mb : M) : M := mTx1 m kb mb dJoinA
def mSplit (m : M) (mb : M) : M := mTx1 m .fz mb dSplitA
section
variable {K : PySem.W.Frag}
theorem s_joinA (a : Str) : LSem K (rL1 fun y H Q => ∃ (a' : Str) (p : Addr) (ys : List Str), V.str a = V.str a' ∧ [y] = [V.ref p] ∧ (SqL K H p (ys.map V.str) ∨ SqT K H p (ys.map V.str)) ∧ (ys.map (·.length)).sum + ys.length * a'.length ≤ 16777216 ∧ Q (.str (Txt.join a' ys)) H) (dJoinA a) .fz := by
  intro F H ds vs d Q s hv ho q
  unfold dJoinA at ho
  split at ho
  · rename_i es
    obtain ⟨ys, h1, ho⟩ := Option.bind_eq_some_iff.mp ho
    split at ho
    · rename_i hn
      cases ho
      obtain ⟨v, rfl, p, xs, rfl, h2, h3⟩ := hv.one
      obtain ⟨e1, e2⟩ := strsD_v h1 h3
      subst e1
      refine ⟨_, rfl, a, p, ys, rfl, rfl, .inl h2, hn, ?_⟩
      rw [TL.join_eq]
      exact q.now s rfl
    · cases ho
  · cases ho
theorem s_splitA (a : Str) : LSem K (rL1 fun y H Q => ∃ (a' b : Str), V.str a = V.str a' ∧ [y] = [V.str b] ∧ (b.length == 0) = false ∧ a'.length + 2 ≤ sizeLine ∧ rNewStrs (Txt.split a' b) H Q) (dSplitA a) .ow := by
  intro F H ds vs d Q s hv ho q
  unfold dSplitA at ho
  split at ho
  · rename_i b
    split at ho
    · rename_i hn
      cases ho
      obtain ⟨v, rfl, h1⟩ := hv.one
      have h1 : v = .str b := h1
      subst h1
      exact ⟨_, rfl, a, b, rfl, rfl, hn.1, by rw [sizeLine_eq]; omega, fun p hp => q.lst s (rpA_strs _) p hp⟩
    · cases ho
  · cases ho
theorem s_lower : LSem K (rL1 fun x H Q => (∃ a, x = V.str a) ∧ ∃ a, x = V.str a ∧ ([] : List V) = [] ∧ a.length ≤ 5592405 ∧ Q (.str (Txt.lower a)) H) dLower .fz := by
  intro F H ds vs d Q s hv ho q
  unfold dLower at ho
  split at ho
  · rename_i a
    split at ho
    · rename_i hn
      cases ho
      obtain ⟨v, rfl, h1⟩ := hv.one
      have h1 : v = .str a := h1
      subst h1
      exact ⟨_, rfl, ⟨a, rfl⟩, a, rfl, rfl, by omega, q.now s rfl⟩
    · cases ho
  · cases ho
end
section
variable {X : Cx} {O : List Kd} {o e : Expr} {m mb : M} {kb : Ak} {apos pos : Pos}
theorem tM1_of {r : V → List V → Hp → VK → Prop} {op : Str → List D → Option D} {k : Ak} {σ : L2.St} {H : Hp} {Q : VK} (hs : ∀ a : Str, LSem X.K (rL1 fun y H Q => r (.str a) [y] H Q) (op a) k) (h : tE X.K O (mTx1 m kb mb op) k σ H Q) : tM1 r (tE X.K O m .fz) (tE X.K O mb kb) σ H Q := by
  obtain ⟨F, ρ, d, ρ', ok, hm, q⟩ := h
  obtain ⟨⟨d1, ρ1⟩, e1, e2⟩ := bind_some hm
  obtain ⟨y, e3, e4⟩ := Option.bind_eq_some_iff.mp e2
  obtain rfl := strOf_some e3
  refine ⟨F, ρ, _, ρ1, ok, e1, fun v F1 H1 ok1 st1 r1 => ?_⟩
  have r1 : v = .str y := r1
  subst r1
  exact ⟨⟨y, rfl⟩, tUn_of (hs y) ⟨F1, ρ1, d, ρ', ok1, e4, fun v F2 H2 ok2 st2 r2 => q v F2 H2 ok2 (st1.trans st2) (r2.pre st1.toStpS)⟩⟩
theorem e_join (ho : PE X o (tE X.K O m .fz)) (he : PE X e (tE X.K O mb kb)) (hs : starEach [e] X.env = [(false, eval e X.env)] := by rfl) (hbase : attributeBase o "join" X.env (eval o X.env) = eval o X.env := by rfl) (hline : (apos.endLine == pos.line) = true := by rfl) :
    PE X (.Call (.Attribute o "join" apos) [e] [] pos) (tE X.K O (mJoin m kb mb) .fz) := PEi (pe_join ho he hs hbase hline) fun _ _ _ h => tM1_of s_joinA h
theorem e_split (ho : PE X o (tE X.K O m .fz)) (he : PE X e (tE X.K O mb .fz)) (hs : starEach [e] X.env = [(false, eval e X.env)] := by rfl) (hbase : attributeBase o "split" X.env (eval o X.env) = eval o X.env := by rfl) (hline : (apos.endLine == pos.line) = true := by rfl) :
    PE X (.Call (.Attribute o "split" apos) [e] [] pos) (tE X.K O (mSplit m mb) .ow) := PEi (pe_split ho he hs hbase hline) fun _ _ _ h => tM1_of s_splitA h
theorem e_lower (ho : PE X o (tE X.K O m .fz)) (hbase : attributeBase o "lower" X.env (eval o X.env) = eval o X.env := by rfl) (hline : (apos.endLine == pos.line) = true := by rfl) :
    PE X (.Call (.Attribute o "lower" apos) [] [] pos) (tE X.K O (m1 .fz m dLower) .fz) := PEi (pe_lower ho hbase hline) fun _ _ _ h => tUn_of (r := fun x H Q => (∃ a, x = V.str a) ∧ ∃ a, x = V.str a ∧ ([] : List V) = [] ∧ a.length ≤ 5592405 ∧ Q (.str (Txt.lower a)) H) s_lower h
end
def rStrU : List V → Hp → VK → Prop := fun xs H Q => (∃ y : Str, xs = [.str y] ∧ Q (.str y) H) ∨ (∃ i : Int, xs = [.int i] ∧ i.natAbs.log2 < 1920 ∧ Q (.str (Str.ofString (toString i))) H) ∨ (∃ b : Bool, xs = [.bl b] ∧ Q (.str (if b then ("True" : Str) else "False")) H) ∨ (xs = [.non] ∧ Q (.str "None") H)
def dStr : List D → Option D
  | [.str x] => some (.str x)
  | [.int i] => if i.natAbs.log2 < 1920 then some (.str (Str.ofString (toString i))) else none
  | [.bool b] => some (.str (if b then ("True" : Str) else "False"))
  | [.none] => some (.str "None")
  | _ => none
def dIntU : List D → Option D
  | [.str a] => (intText? a).bind fun n => if a.length ≤ 640 then some (.int n) else none
  | _ => none
section
variable {X : Cx}
theorem cr_str : CallR X (.type "str") rStrU := by
  intro pins s σ H xs us Q I rs h
  rcases h with ⟨y, rfl, q⟩ | ⟨i, rfl, hs, q⟩ | ⟨b, rfl, q⟩ | ⟨rfl, q⟩
  all_goals
    cases rs with
    | cons r1 rs => ?_
    cases rs
  · obtain ⟨t, rfl⟩ := r1
    exact P.str_of_str ⟨.str y, H, I, ⟨t, rfl⟩, q⟩
  · obtain ⟨t, rfl⟩ := r1
    exact P.str_of_int hs ⟨.str (Str.ofString (toString i)), H, I.tok _, ⟨_, rfl⟩, q⟩
  · rename_i u
    have r1 : u = Value.bool b := r1
    subst r1
    exact P.str_of_bool ⟨.str (if b then ("True" : Str) else "False"), H, I.tok _, ⟨_, rfl⟩, q⟩
  · rename_i u
    have r1 : u = Value.none := r1
    subst r1
    exact P.str_of_none ⟨.str "None", H, I.tok _, ⟨_, rfl⟩, q⟩
theorem s_strU {K : PySem.W.Frag} : LSem K rStrU dStr .fz := by
  intro F H ds vs d Q s hv ho q
  unfold dStr at ho
  split at ho
  · rename_i y
    cases ho
    obtain ⟨v, rfl, h1⟩ := hv.one
    have h1 : v = .str y := h1
    subst h1
    exact .inl ⟨y, rfl, q.now s rfl⟩
  · rename_i i
    split at ho
    · rename_i hs
      cases ho
      obtain ⟨v, rfl, h1⟩ := hv.one
      have h1 : v = .int i := h1
      subst h1
      exact .inr (.inl ⟨i, rfl, hs, q.now s rfl⟩)
    · cases ho
  · rename_i b
    cases ho
    obtain ⟨v, rfl, h1⟩ := hv.one
    have h1 : v = .bl b := h1
    subst h1
    exact .inr (.inr (.inl ⟨b, rfl, q.now s rfl⟩))
  · cases ho
    obtain ⟨v, rfl, h1⟩ := hv.one
    have h1 : v = .non := h1
    subst h1
    exact .inr (.inr (.inr ⟨rfl, q.now s rfl⟩))
  · cases ho
theorem s_intU {K : PySem.W.Frag} : LSem K (fun xs H Q => ∃ (a : Str) (n : Int), xs = [V.str a] ∧ intText? a = some n ∧ a.length ≤ 640 ∧ Q (.int n) H) dIntU .fz := by
  intro F H ds vs d Q s hv ho q
  unfold dIntU at ho
  split at ho
  · rename_i a
    obtain ⟨n, e1, ho⟩ := Option.bind_eq_some_iff.mp ho
    split at ho
    · rename_i hs
      cases ho
      obtain ⟨v, rfl, h1⟩ := hv.one
      have h1 : v = .str a := h1
      subst h1
      exact ⟨a, n, rfl, e1, hs, q.now s rfl⟩
    · cases ho
  · cases ho
variable {O : List Kd} {pos p : Pos} {a : Expr} {ma : MA} {ks : List Ak}
theorem e_strU (B : Bt X.mg) (ha : PA X [a] (tA X.K O ma ks)) (hg : Gl X "str" := by rfl) (he : starEach [a] X.env = (false, eval a X.env) :: starEach [] X.env := by rfl) (hpl : (backTo pos (starEach [] X.env)).any (·.1) = false := by rfl) : PE X (.Call (.Name "str" p) [a] [] pos) (tE X.K O (mOp ks ma dStr) .fz) :=
  e_bty cr_str s_strU B.str (by decide +kernel) ha hg (by decide) (by decide) he hpl
theorem e_intU (B : Bt X.mg) (ha : PA X [a] (tA X.K O ma ks)) (hg : Gl X "int" := by rfl) (he : starEach [a] X.env = (false, eval a X.env) :: starEach [] X.env := by rfl) (hpl : (backTo pos (starEach [] X.env)).any (·.1) = false := by rfl) : PE X (.Call (.Name "int" p) [a] [] pos) (tE X.K O (mOp ks ma dIntU) .fz) :=
  e_bty L2.call_int_str s_intU B.int (by decide +kernel) ha hg (by decide) (by decide) he hpl
theorem s_try {body : List Stmt} {h0 : ExceptHandler} {hs : List ExceptHandler} {mb : MS} {r : Ak} (hb : PSs X.nox body (tS X.K O mb r)) : PS X (.Try body (h0 :: hs) [] [] pos) (tS X.K O mb r) := ps_try_thru0 hb
end
def W {α : Type} (m : Option (α × En)) (Q : α → En → Prop) : Prop := ∃ a ρ, m = some (a, ρ) ∧ Q a ρ
section
variable {α β : Type} {m : Option (α × En)} {Q R : α → En → Prop} {ρ : En} {i : Nat} {d : D}
theorem W.mono (h : W m Q) (k : ∀ a ρ, Q a ρ → R a ρ) : W m R := by
  obtain ⟨a, ρ, e, q⟩ := h
  exact ⟨a, ρ, e, k a ρ q⟩
@[simp] theorem W_some {a : α} : W (some (a, ρ)) Q ↔ Q a ρ := ⟨fun ⟨_, _, e, q⟩ => by cases e; exact q, fun q => ⟨a, ρ, rfl, q⟩⟩
@[simp] theorem W_none : W (none : Option (α × En)) Q ↔ False := ⟨fun ⟨_, _, e, _⟩ => by (cases e), False.elim⟩
theorem W_bind {f : α × En → Option (β × En)} {R : β → En → Prop} : W (m.bind f) R ↔ W m fun a ρ => W (f (a, ρ)) R := by
  constructor
  · rintro ⟨b, ρ', e, q⟩
    obtain ⟨⟨a, ρ1⟩, e1, e2⟩ := Option.bind_eq_some_iff.mp e
    exact ⟨a, ρ1, e1, b, ρ', e2, q⟩
  · rintro ⟨a, ρ1, e1, b, ρ', e2, q⟩
    exact ⟨b, ρ', by rw [e1]; exact e2, q⟩
theorem W_map {f : α × En → β × En} {R : β → En → Prop} : W (m.map f) R ↔ W m fun a ρ => R (f (a, ρ)).1 (f (a, ρ)).2 := by
  constructor
  · rintro ⟨b, ρ', e, q⟩
    obtain ⟨⟨a, ρ1⟩, e1, e2⟩ := Option.map_eq_some_iff.mp e
    exact ⟨a, ρ1, e1, by show R (f (a, ρ1)).1 (f (a, ρ1)).2; rw [e2]; exact q⟩
  · rintro ⟨a, ρ1, e1, q⟩
    exact ⟨_, _, by rw [e1]; rfl, q⟩
theorem W_ite {c : Prop} [Decidable c] {a b : Option (α × En)} : W (if c then a else b) Q ↔ if c then W a Q else W b Q := by
  split <;> rfl
def at? (ρ : En) (i : Nat) : Option D := (ρ[i]?).join
@[simp] theorem at_nil : at? [] i = none := rfl
@[simp] theorem at_zero {x : Option D} : at? (x :: ρ) 0 = x := rfl
@[simp] theorem at_succ {x : Option D} : at? (x :: ρ) (i + 1) = at? ρ i := rfl
end
section
variable {Q : D → En → Prop} {QT : Bool → En → Prop} {QA : List D → En → Prop} {QS : Fl → En → Prop} {ρ : En} {i : Nat} {d : D}
@[simp] theorem W_var : W (mVar i ρ) Q ↔ ∃ d, at? ρ i = some d ∧ Q d ρ := by
  unfold mVar at?
  cases h : ρ[i]? with
  | none => simp
  | some o => cases o <;> simp
@[simp] theorem W_mv : W (mMv i ρ) Q ↔ ∃ d, at? ρ i = some d ∧ Q d (ρ.set i none) := by
  unfold mMv at?
  cases h : ρ[i]? with
  | none => simp
  | some o => cases o <;> simp
@[simp] theorem W_br : W (mBr i ρ) Q ↔ ∃ d, at? ρ i = some d ∧ Q .none ρ := by
  unfold mBr at?
  cases h : ρ[i]? with
  | none => simp
  | some o => cases o <;> simp
@[simp] theorem W_C : W (mC d ρ) Q ↔ Q d ρ := W_some
@[simp] theorem W_aNil : W (maNil ρ) QA ↔ QA [] ρ := W_some
@[simp] theorem W_aCons {m : M} {r : MA} : W (maCons m r ρ) QA ↔ W (m ρ) fun d ρ1 => W (r ρ1) fun ds ρ2 => QA (d :: ds) ρ2 := by
  unfold maCons
  rw [W_bind]
  simp only [W_bind, W_some]
@[simp] theorem W_op {ks : List Ak} {ma : MA} {op : List D → Option D} : W (mOp ks ma op ρ) Q ↔ W (ma ρ) fun ds ρ1 => ∃ es, fill ks ds ρ1 = some es ∧ ∃ z, op es = some z ∧ Q z ρ1 := by
  unfold mOp
  rw [W_bind]
  refine ⟨fun h => h.mono fun ds ρ1 ⟨a, ρ', e, q⟩ => ?_, fun h => h.mono fun ds ρ1 ⟨es, e1, z, e2, q⟩ => ?_⟩
  · obtain ⟨es, e1, e2⟩ := Option.bind_eq_some_iff.mp e
    obtain ⟨z, e3, e4⟩ := Option.map_eq_some_iff.mp e2
    cases e4
    exact ⟨es, e1, _, e3, q⟩
  · exact ⟨z, ρ1, by rw [e1]; show (op es).map _ = _; rw [e2]; rfl, q⟩
@[simp] theorem W_m1 {k : Ak} {m : M} {op : List D → Option D} : W (m1 k m op ρ) Q ↔ W (m ρ) fun d ρ1 => ∃ es, fill [k] [d] ρ1 = some es ∧ ∃ z, op es = some z ∧ Q z ρ1 := by
  unfold m1
  simp only [W_op, W_aCons, W_aNil]
@[simp] theorem W_m2 {k k2 : Ak} {m m' : M} {op : List D → Option D} : W (m2 k k2 m m' op ρ) Q ↔ W (m ρ) fun d ρ1 => W (m' ρ1) fun d' ρ2 => ∃ es, fill [k, k2] [d, d'] ρ2 = some es ∧ ∃ z, op es = some z ∧ Q z ρ2 := by
  unfold m2
  simp only [W_op, W_aCons, W_aNil]
@[simp] theorem fill_nil : fill [] [] ρ = some [] := rfl
@[simp] theorem fill_fz {ks : List Ak} {ds : List D} : fill (.fz :: ks) (d :: ds) ρ = (fill ks ds ρ).map (d :: ·) := rfl
@[simp] theorem fill_ow {ks : List Ak} {ds : List D} : fill (.ow :: ks) (d :: ds) ρ = (fill ks ds ρ).map (d :: ·) := rfl
@[simp] theorem fill_br {ks : List Ak} {ds : List D} : fill (.br i :: ks) (d :: ds) ρ = (at? ρ i).bind fun d => (fill ks ds ρ).map (d :: ·) := by
  unfold at?
  show (match ρ[i]? with | some (some d) => _ | _ => none) = _
  cases h : ρ[i]? with
  | none => rfl
  | some o => cases o <;> rfl
@[simp] theorem W_tr {m : M} : W (mTr m ρ) QT ↔ W (m ρ) fun d ρ1 => ∃ b, d = .bool b ∧ QT b ρ1 := by
  unfold mTr
  rw [W_bind]
  refine ⟨fun h => h.mono fun d ρ1 q => ?_, fun h => h.mono fun d ρ1 ⟨b, e, q⟩ => by rw [e]; exact W_some.mpr q⟩
  cases d <;> first | exact ⟨_, rfl, W_some.mp q⟩ | exact (W_none.mp q).elim
@[simp] theorem W_and {a b : MT} : W (mAnd a b ρ) QT ↔ W (a ρ) fun c ρ1 => if c = true then W (b ρ1) QT else QT false ρ1 := by
  unfold mAnd
  rw [W_bind]
  simp only [W_ite, W_some]
@[simp] theorem W_or {a b : MT} : W (mOr a b ρ) QT ↔ W (a ρ) fun c ρ1 => if c = true then QT true ρ1 else W (b ρ1) QT := by
  unfold mOr
  rw [W_bind]
  simp only [W_ite, W_some]
@[simp] theorem W_not {a : MT} : W (mNot a ρ) QT ↔ W (a ρ) fun c ρ1 => QT (!c) ρ1 := W_map
@[simp] theorem W_andV {a b : M} : W (mAndV a b ρ) Q ↔ W (mTr a ρ) fun c ρ1 => if c = true then W (b ρ1) Q else Q (.bool false) ρ1 := by
  unfold mAndV
  rw [W_bind]
  simp only [W_ite, W_some]
@[simp] theorem W_orV {a b : M} : W (mOrV a b ρ) Q ↔ W (mTr a ρ) fun c ρ1 => if c = true then Q (.bool true) ρ1 else W (b ρ1) Q := by
  unfold mOrV
  rw [W_bind]
  simp only [W_ite, W_some]
@[simp] theorem W_notV {a : M} : W (mNotV a ρ) Q ↔ W (mTr a ρ) fun c ρ1 => Q (.bool (!c)) ρ1 := W_map
@[simp] theorem W_if {t : MT} {a b : M} : W (mIf t a b ρ) Q ↔ W (t ρ) fun c ρ1 => if c = true then W (a ρ1) Q else W (b ρ1) Q := by
  unfold mIf
  rw [W_bind]
  simp only [W_ite]
@[simp] theorem W_tup {ma : MA} : W (mTup ma ρ) Q ↔ W (ma ρ) fun ds ρ1 => Q (.tuple ds) ρ1 := W_map
@[simp] theorem W_lst {ma : MA} : W (mLst ma ρ) Q ↔ W (ma ρ) fun ds ρ1 => Q (.list ds) ρ1 := W_map
@[simp] theorem W_chain {f g : Int → Int → Bool} {a b c : M} : W (mChain f g a b c ρ) Q ↔ W (a ρ) fun x ρ1 => W (b ρ1) fun y ρ2 => ∃ i j, x = .int i ∧ y = .int j ∧ if f i j = true then W (c ρ2) fun z ρ3 => ∃ n, z = .int n ∧ Q (.bool (g j n)) ρ3 else Q (.bool false) ρ2 := by
  unfold mChain
  rw [W_bind]
  simp only [W_bind]
  refine ⟨fun h => h.mono fun x ρ1 h => h.mono fun y ρ2 q => ?_, fun h => h.mono fun x ρ1 h => h.mono fun y ρ2 ⟨i, j, e1, e2, q⟩ => ?_⟩
  · cases x <;> cases y <;> first | (exact (W_none.mp q).elim) | skip
    refine ⟨_, _, rfl, rfl, ?_⟩
    have q := W_ite.mp q
    split at q
    · rename_i h
      rw [if_pos h]
      refine (W_bind.mp q).mono fun z ρ3 q => ?_
      cases z <;> first | exact ⟨_, rfl, W_some.mp q⟩ | exact (W_none.mp q).elim
    · rename_i h
      rw [if_neg h]
      exact W_some.mp q
  · subst e1 e2
    refine W_ite.mpr ?_
    split at q
    · rename_i h
      rw [if_pos h]
      refine W_bind.mpr (q.mono fun z ρ3 ⟨n, e, q⟩ => ?_)
      subst e
      exact W_some.mpr q
    · rename_i h
      rw [if_neg h]
      exact W_some.mpr q
def nxK (f : Fl) (ρ : En) (K : En → Prop) (Q : Fl → En → Prop) : Prop := match f with
  | .nx => K ρ
  | f => Q f ρ
@[simp] theorem nxK_nx {K : En → Prop} : nxK .nx ρ K QS ↔ K ρ := Iff.rfl
@[simp] theorem nxK_bk {K : En → Prop} : nxK .bk ρ K QS ↔ QS .bk ρ := Iff.rfl
@[simp] theorem nxK_ct {K : En → Prop} : nxK .ct ρ K QS ↔ QS .ct ρ := Iff.rfl
@[simp] theorem nxK_rt {K : En → Prop} : nxK (.rt d) ρ K QS ↔ QS (.rt d) ρ := Iff.rfl
theorem W_seq {a b : MS} : W (mSeq a b ρ) QS ↔ W (a ρ) fun f ρ1 => nxK f ρ1 (fun ρ => W (b ρ) QS) QS := by
  unfold mSeq
  rw [W_bind]
  refine ⟨fun h => h.mono fun f ρ1 q => ?_, fun h => h.mono fun f ρ1 q => ?_⟩ <;> cases f <;> first | exact q | exact W_some.mp q | exact W_some.mpr q
@[simp] theorem W_skip : W (mSkip ρ) QS ↔ QS .nx ρ := W_some
@[simp] theorem W_break : W (mBreak ρ) QS ↔ QS .bk ρ := W_some
@[simp] theorem W_cont : W (mCont ρ) QS ↔ QS .ct ρ := W_some
@[simp] theorem W_never : W (mNever ρ) QS ↔ False := W_none
@[simp] theorem W_drop {m : M} : W (mDrop m ρ) QS ↔ W (m ρ) fun _ ρ1 => QS .nx ρ1 := W_map
@[simp] theorem W_ret {m : M} : W (mRet m ρ) QS ↔ W (m ρ) fun d ρ1 => QS (.rt d) ρ1 := W_map
@[simp] theorem W_iteS {c : MT} {a b : MS} : W (mIte c a b ρ) QS ↔ W (c ρ) fun t ρ1 => if t = true then W (a ρ1) QS else W (b ρ1) QS := by
  unfold mIte
  rw [W_bind]
  simp only [W_ite]
@[simp] theorem W_set {m : M} : W (mSet i m ρ) QS ↔ W (m ρ) fun d ρ1 => QS .nx (ρ1.set i (some d)) := W_map
@[simp] theorem W_fz {m : MS} : W (mFz i m ρ) QS ↔ W (m ρ) fun f ρ1 => QS f (ρ1.set i none) := W_map
@[simp] theorem W_asg {g : MG} {m : M} : W (mAsg g m ρ) QS ↔ W (m ρ) fun d ρ1 => ∃ ρ2, g d ρ1 = some ρ2 ∧ QS .nx ρ2 := by
  unfold mAsg
  rw [W_bind]
  refine ⟨fun h => h.mono fun d ρ1 ⟨a, ρ', e, q⟩ => ?_, fun h => h.mono fun d ρ1 ⟨ρ2, e, q⟩ => ⟨_, ρ2, by show (g d ρ1).map _ = _; rw [e]; rfl, q⟩⟩
  obtain ⟨ρ2, e1, e2⟩ := Option.map_eq_some_iff.mp e
  cases e2
  exact ⟨_, e1, q⟩
@[simp] theorem W_aug {m : M} {op : List D → Option D} : W (mAug i m op ρ) QS ↔ ∃ d, at? ρ i = some d ∧ W (m ρ) fun d2 ρ1 => ∃ z, op [d, d2] = some z ∧ QS .nx (ρ1.set i (some z)) := by
  unfold mAug at?
  cases h : ρ[i]? with
  | none => simp
  | some o =>
    cases o with
    | none => simp
    | some d =>
      simp only [Option.join_some, Option.some.injEq, exists_eq_left']
      show W ((m ρ).bind _) _ ↔ _
      rw [W_bind]
      refine ⟨fun h => h.mono fun d2 ρ1 ⟨a, ρ', e, q⟩ => ?_, fun h => h.mono fun d2 ρ1 ⟨z, e, q⟩ => ⟨_, _, by show (op [d, d2]).map _ = _; rw [e]; rfl, q⟩⟩
      obtain ⟨z, e1, e2⟩ := Option.map_eq_some_iff.mp e
      cases e2
      exact ⟨_, e1, q⟩
@[simp] theorem W_call {mf : En → Option (D × En)} {ks : List Ak} {dd : List D} {ma : MA} : W (mCall mf ks dd ma ρ) Q ↔ W (ma ρ) fun ds ρ1 => ∃ es, fill ks ds ρ1 = some es ∧ W (mf ((es ++ dd).map some)) fun z out => Q z (putB ks out ρ1) := by
  unfold mCall
  rw [W_bind]
  refine ⟨fun h => h.mono fun ds ρ1 ⟨a, ρ', e, q⟩ => ?_, fun h => h.mono fun ds ρ1 ⟨es, e1, z, out, e2, q⟩ => ⟨_, _, by rw [e1]; show (mf _).bind _ = _; rw [e2]; rfl, q⟩⟩
  obtain ⟨es, e1, e2⟩ := Option.bind_eq_some_iff.mp e
  obtain ⟨⟨z, out⟩, e3, e4⟩ := Option.bind_eq_some_iff.mp e2
  cases e4
  exact ⟨es, e1, z, out, e3, q⟩
@[simp] theorem putB_nil {out : En} : putB [] out ρ = ρ := rfl
@[simp] theorem putB_br {ks : List Ak} {o : Option D} {os : En} : putB (.br i :: ks) (o :: os) ρ = putB ks os (ρ.set i o) := rfl
@[simp] theorem putB_fz {ks : List Ak} {o : Option D} {os : En} : putB (.fz :: ks) (o :: os) ρ = putB ks os ρ := rfl
@[simp] theorem putB_ow {ks : List Ak} {o : Option D} {os : En} : putB (.ow :: ks) (o :: os) ρ = putB ks os ρ := rfl
theorem W_fun {Oi : List Kd} {n : Nat} {r : Ak} {b : MS} : W (mFun Oi n r b ρ) Q ↔ W (b (ρ ++ List.replicate n none)) fun f ρ1 => (∃ d, f = .rt d ∧ Q d (outE Oi ρ1)) ∨ (f = .nx ∧ r = .fz ∧ Q .none (outE Oi ρ1)) := by
  unfold mFun
  rw [W_bind]
  refine ⟨fun h => h.mono fun f ρ1 q => ?_, fun h => h.mono fun f ρ1 q => ?_⟩
  · cases f with
    | rt d => exact .inl ⟨d, rfl, W_some.mp q⟩
    | nx =>
      cases r with
      | fz => exact .inr ⟨rfl, rfl, W_some.mp q⟩
      | ow => exact (W_none.mp q).elim
      | br _ => exact (W_none.mp q).elim
    | bk => exact (W_none.mp q).elim
    | ct => exact (W_none.mp q).elim
  · rcases q with ⟨d, rfl, q⟩ | ⟨rfl, rfl, q⟩ <;> exact W_some.mpr q
@[simp] theorem outE_nil : outE [] ρ = [] := rfl
@[simp] theorem outE_cons {k : Kd} {ks : List Kd} {r : Option D} : outE (k :: ks) (r :: ρ) = (if k = .io then r else none) :: outE ks ρ := rfl
@[simp] theorem W_setIx {mi mv : M} : W (mSetIx i mi mv ρ) QS ↔ W (mv ρ) fun v ρ1 => ∃ d, at? ρ1 i = some d ∧ W (mi ρ1) fun x ρ2 => ∃ j ds n, x = .int j ∧ at? ρ2 i = some (.list ds) ∧ ixN ds.length j = some n ∧ QS .nx (ρ2.set i (some (.list (ds.set n v)))) := by
  unfold mSetIx
  rw [W_bind]
  refine ⟨fun h => h.mono fun v ρ1 h => ?_, fun h => h.mono fun v ρ1 ⟨d, e, h⟩ => ?_⟩
  · obtain ⟨d, e, h⟩ := W_br.mp (W_bind.mp h)
    refine ⟨d, e, (W_bind.mp h).mono fun x ρ2 q => ?_⟩
    obtain ⟨a, ρ3, e1, q⟩ := q
    dsimp only at e1
    split at e1
    · rename_i j ds e3
      obtain ⟨n, e4, e5⟩ := Option.map_eq_some_iff.mp e1
      cases e5
      refine ⟨j, ds, _, rfl, by unfold at?; rw [e3]; rfl, e4, q⟩
    · cases e1
  · refine W_bind.mpr (W_br.mpr ⟨d, e, W_bind.mpr (h.mono fun x ρ2 ⟨j, ds, n, e1, e2, e3, q⟩ => ?_)⟩)
    subst e1
    have e4 : ρ2[i]? = some (some (.list ds)) := by
      unfold at? at e2
      cases h : ρ2[i]? with
      | none => rw [h] at e2; cases e2
      | some o => rw [h] at e2; rw [show o = some _ from e2]
    refine ⟨_, _, ?_, q⟩
    rw [e4]
    show (ixN ds.length j).map _ = _
    rw [e3]
    rfl
theorem W_mut0 {T : String} {ma : MA} {op : D → List D → Option (D × D)} : W (mMut i T ma op ρ) Q ↔ ∃ d1, at? ρ i = some d1 ∧ isTy T d1 = true ∧ W (ma ρ) fun ds ρ1 => ∃ d0, at? ρ1 i = some d0 ∧ ∃ z, op d0 ds = some z ∧ Q z.1 (ρ1.set i (some z.2)) := by
  unfold mMut at?
  cases h : ρ[i]? with
  | none => simp
  | some o =>
    cases o with
    | none => simp
    | some d1 =>
      simp only [Option.join_some, Option.some.injEq, exists_eq_left']
      show W (if isTy T d1 = true then _ else none) _ ↔ _
      rw [W_ite]
      by_cases hT : isTy T d1 = true
      · rw [if_pos hT, W_bind]
        refine ⟨fun h => ⟨hT, h.mono fun ds ρ1 ⟨a, ρ', e, q⟩ => ?_⟩, fun ⟨_, h⟩ => h.mono fun ds ρ1 ⟨d0, e, z, e1, q⟩ => ?_⟩
        · dsimp only at e
          split at e
          · rename_i d0 e0
            obtain ⟨z, e1, e2⟩ := Option.map_eq_some_iff.mp e
            cases e2
            exact ⟨d0, by rw [e0]; rfl, _, e1, q⟩
          · cases e
        · have e4 : ρ1[i]? = some (some d0) := by
            cases h : ρ1[i]? with
            | none => rw [h] at e; cases e
            | some o => rw [h] at e; rw [show o = some _ from e]
          refine ⟨z.1, _, ?_, q⟩
          rw [e4]
          show (op d0 ds).map _ = _
          rw [e1]
          rfl
      · rw [if_neg hT]
        exact ⟨fun h => (W_none.mp h).elim, fun h => (hT h.1).elim⟩
@[simp] theorem W_mut {T : String} {ma : MA} {op : D → List D → Option (D × D)} : W (mMut i T ma op ρ) Q ↔ ∃ d1, at? ρ i = some d1 ∧ isTy T d1 = true ∧ W (ma ρ) fun ds ρ1 => ∃ d0, at? ρ1 i = some d0 ∧ ∃ x y, op d0 ds = some (x, y) ∧ Q x (ρ1.set i (some y)) := by
  rw [W_mut0]
  simp only [Prod.exists]
@[simp] theorem W_sl {ka : Ak} {m : M} {lo hi : MO} {op : D → Option Int → Option Int → Option D} : W (mSl ka m lo hi op ρ) Q ↔ W (m ρ) fun d ρ1 => W (lo ρ1) fun l ρ2 => W (hi ρ2) fun h ρ3 => ∃ es, fill [ka] [d] ρ3 = some es ∧ ∃ x, es = [x] ∧ ∃ z, op x l h = some z ∧ Q z ρ3 := by
  unfold mSl
  rw [W_bind]
  simp only [W_bind]
  refine ⟨fun h => h.mono fun d ρ1 h => h.mono fun l ρ2 h => h.mono fun hh ρ3 ⟨a, ρ', e, q⟩ => ?_, fun h => h.mono fun d ρ1 h => h.mono fun l ρ2 h => h.mono fun hh ρ3 ⟨es, e1, x, e2, z, e3, q⟩ => ⟨z, ρ3, ?_, q⟩⟩
  · obtain ⟨es, e1, e2⟩ := Option.bind_eq_some_iff.mp e
    split at e2
    · obtain ⟨z, e3, e4⟩ := Option.map_eq_some_iff.mp e2
      cases e4
      exact ⟨_, e1, _, rfl, _, e3, q⟩
    · cases e2
  · subst e2
    rw [e1]
    show (op x l hh).map _ = _
    rw [e3]
    rfl
@[simp] theorem W_no {QO : Option Int → En → Prop} : W (mNo ρ) QO ↔ QO none ρ := W_some
@[simp] theorem W_pt {QO : Option Int → En → Prop} {m : M} : W (mPt m ρ) QO ↔ W (m ρ) fun d ρ1 => ∃ i, d = .int i ∧ QO (some i) ρ1 := by
  unfold mPt
  rw [W_bind]
  refine ⟨fun h => h.mono fun d ρ1 q => ?_, fun h => h.mono fun d ρ1 ⟨b, e, q⟩ => by rw [e]; exact W_some.mpr q⟩
  cases d <;> first | exact ⟨_, rfl, W_some.mp q⟩ | exact (W_none.mp q).elim
end
def fnK (Oi : List Kd) (r : Ak) (Q : D → En → Prop) (f : Fl) (ρ : En) : Prop := match f with
  | .rt d => Q d (outE Oi ρ)
  | .nx => r = .fz ∧ Q .none (outE Oi ρ)
  | _ => False
section
variable {Oi : List Kd} {r : Ak} {Q : D → En → Prop} {ρ : En} {d : D} {n : Nat} {b : MS}
@[simp] theorem fnK_rt : fnK Oi r Q (.rt d) ρ ↔ Q d (outE Oi ρ) := Iff.rfl
@[simp] theorem fnK_nx : fnK Oi .fz Q .nx ρ ↔ Q .none (outE Oi ρ) := ⟨fun h => h.2, fun h => ⟨rfl, h⟩⟩
theorem W_fn : W (mFun Oi n r b ρ) Q ↔ W (b (ρ ++ List.replicate n none)) (fnK Oi r Q) := by
  rw [W_fun]
  refine ⟨fun h => h.mono fun f ρ1 q => ?_, fun h => h.mono fun f ρ1 q => ?_⟩
  · rcases q with ⟨d, rfl, q⟩ | ⟨rfl, e, q⟩
    · exact q
    · exact ⟨e, q⟩
  · cases f with
    | rt d => exact .inl ⟨d, rfl, q⟩
    | nx => exact .inr ⟨rfl, q.1, q.2⟩
    | bk => exact q.elim
    | ct => exact q.elim
end
@[simp] theorem ex_cond {α : Type} {c : Prop} {x : α} {P : α → Prop} : (∃ z, (c ∧ z = x) ∧ P z) ↔ c ∧ P x := ⟨fun ⟨_, ⟨h, e⟩, p⟩ => ⟨h, by rw [← e]; exact p⟩, fun ⟨h, p⟩ => ⟨x, ⟨h, rfl⟩, p⟩⟩
@[simp] theorem ex_cond2 {α β : Type} {c : Prop} {x : α} {y : β} {P : α → β → Prop} : (∃ a b, (c ∧ a = x ∧ b = y) ∧ P a b) ↔ c ∧ P x y := ⟨fun ⟨_, _, ⟨h, e, e2⟩, p⟩ => ⟨h, by rw [← e, ← e2]; exact p⟩, fun ⟨h, p⟩ => ⟨x, y, ⟨h, rfl, rfl⟩, p⟩⟩
@[simp] theorem ixN_0 {n : Nat} : ixN (n + 1) 0 = some 0 := by
  unfold ixN
  rw [if_pos (by omega), if_pos (by omega)]
  rfl
section
variable {i j : Int} {Q : D → Prop}
@[simp] theorem dAdd_i : dAdd [.int i, .int j] = some (.int (i + j)) := rfl
@[simp] theorem dSub_i : dSub [.int i, .int j] = some (.int (i - j)) := rfl
@[simp] theorem dLt_i : dLt [.int i, .int j] = some (.bool (decide (i < j))) := rfl
@[simp] theorem dLe_i : dLe [.int i, .int j] = some (.bool (decide (i ≤ j))) := rfl
@[simp] theorem dGt_i : dGt [.int i, .int j] = some (.bool (decide (j < i))) := rfl
@[simp] theorem dGe_i : dGe [.int i, .int j] = some (.bool (decide (j ≤ i))) := rfl
@[simp] theorem dNeg_i : dNeg [.int i] = some (.int (-i)) := rfl
def MulOk (i j : Int) : Prop := i.natAbs.log2 + j.natAbs.log2 < 1000000
theorem log2_small {n : Nat} (h : n < 2 ^ 4000) : n.log2 < 4000 := by
  by_cases z : n = 0
  · rw [z]
    decide
  · exact (Nat.log2_lt z).mpr h
theorem pow64 : (2 : Nat) ^ 64 < 2 ^ 4000 := by decide +kernel
theorem mulOk_of (h : i.natAbs < 2 ^ 64) (h' : j.natAbs < 2 ^ 64) : MulOk i j := by
  have a := log2_small (Nat.lt_trans h pow64)
  have b := log2_small (Nat.lt_trans h' pow64)
  unfold MulOk
  omega
@[simp] theorem dMul_i {d : D} : dMul [.int i, .int j] = some d ↔ MulOk i j ∧ d = .int (i * j) := by
  unfold dMul opIc MulOk
  simp only [decide_eq_true_eq]
  split
  · rename_i h
    exact ⟨fun e => ⟨h, by cases e; rfl⟩, fun e => by rw [e.2]⟩
  · rename_i h
    exact ⟨fun e => (by cases e), fun e => (h e.1).elim⟩
@[simp] theorem dDiv_i {d : D} (hj : 0 < j) : dDiv [.int i, .int j] = some d ↔ j < 1073741824 ∧ d = .int (i / j) := by
  unfold dDiv opIc
  simp only [decide_eq_true_eq]
  split
  · rename_i h
    rw [Int.fdiv_eq_ediv_of_nonneg _ (Int.le_of_lt hj)]
    exact ⟨fun e => ⟨by omega, by cases e; rfl⟩, fun e => by rw [e.2]⟩
  · rename_i h
    exact ⟨fun e => (by cases e), fun e => (h ⟨by omega, by omega⟩).elim⟩
@[simp] theorem dMod_i {d : D} (hj : 0 < j) : dMod [.int i, .int j] = some d ↔ d = .int (i % j) := by
  unfold dMod opIc
  simp only [decide_eq_true_eq]
  rw [if_pos (by omega), Int.fmod_eq_emod_of_nonneg _ (Int.le_of_lt hj)]
  exact ⟨fun e => by cases e; rfl, fun e => by rw [e]⟩
@[simp] theorem dPow_i {d : D} : dPow [.int i, .int j] = some d ↔ (0 ≤ j ∧ j ≤ 1000000 ∧ i.natAbs < 2 ^ 64) ∧ d = .int (i ^ j.toNat) := by
  unfold dPow opIc
  simp only [decide_eq_true_eq]
  split
  · rename_i h
    exact ⟨fun e => ⟨h, by cases e; rfl⟩, fun e => by rw [e.2]⟩
  · rename_i h
    exact ⟨fun e => (by cases e), fun e => (h e.1).elim⟩
variable {ds es : List D} {d x : D}
@[simp] theorem dLen_l : dLen [.list ds] = some (.int ds.length) := rfl
@[simp] theorem dLen_t : dLen [.tuple ds] = some (.int ds.length) := rfl
@[simp] theorem dList_l : dList [.list ds] = some (.list ds) := rfl
@[simp] theorem dList_t : dList [.tuple ds] = some (.list ds) := rfl
@[simp] theorem dTuple_l : dTuple [.list ds] = some (.tuple ds) := rfl
@[simp] theorem dTuple_t : dTuple [.tuple ds] = some (.tuple ds) := rfl
@[simp] theorem dRev_l : dRev [.list ds] = some (.list ds.reverse) := rfl
@[simp] theorem dCat_l : dCat [.list ds, .list es] = some d ↔ ds.length + es.length ≤ 1000000 ∧ d = .list (ds ++ es) := by
  unfold dCat
  dsimp only
  split
  · rename_i h
    exact ⟨fun e => ⟨h, by cases e; rfl⟩, fun e => by rw [e.2]⟩
  · rename_i h
    exact ⟨fun e => (by cases e), fun e => (h e.1).elim⟩
@[simp] theorem dAppend_l {x y : D} : dAppend (.list ds) [d] = some (x, y) ↔ ds.length < 1000000 ∧ x = .none ∧ y = .list (ds ++ [d]) := by
  unfold dAppend
  dsimp only
  split
  · rename_i h
    exact ⟨fun e => ⟨h, by cases e; exact ⟨rfl, rfl⟩⟩, fun e => by rw [e.2.1, e.2.2]⟩
  · rename_i h
    exact ⟨fun e => (by cases e), fun e => (h e.1).elim⟩
@[simp] theorem isTy_l : isTy "list" (.list ds) = true := rfl
@[simp] theorem dIs_int_i : dIs "int" [.int i] = some (.bool true) := rfl
@[simp] theorem dIs_bool_i : dIs "bool" [.int i] = some (.bool false) := rfl
@[simp] theorem dIs_list_l : dIs "list" [.list ds] = some (.bool true) := rfl
@[simp] theorem dIs_tuple_t : dIs "tuple" [.tuple ds] = some (.bool true) := rfl
@[simp] theorem dIx_l : dIx [.list ds, .int i] = atI ds i := rfl
@[simp] theorem dIx_t : dIx [.tuple ds, .int i] = atI ds i := rfl
@[simp] theorem atI_0 {α : Type} {x : α} {xs : List α} : atI (x :: xs) 0 = some x := atI_nat (j := 0) rfl
@[simp] theorem atI_1 {α : Type} {x y : α} {xs : List α} : atI (x :: y :: xs) 1 = some y := atI_nat (j := 1) rfl
@[simp] theorem atI_2 {α : Type} {x y z : α} {xs : List α} : atI (x :: y :: z :: xs) 2 = some z := atI_nat (j := 2) rfl
@[simp] theorem atI_3 {α : Type} {x y z u : α} {xs : List α} : atI (x :: y :: z :: u :: xs) 3 = some u := atI_nat (j := 3) rfl
@[simp] theorem dSlL_l {l h : Option Int} : dSlL (.list ds) l h = some (.list (cutG ds l h)) := rfl
@[simp] theorem dSlT_t {l h : Option Int} : dSlT (.tuple ds) l h = some (.tuple (cutG ds l h)) := rfl
@[simp] theorem mgN_e {ρ : En} {k : Nat} : mgN k d ρ = some (ρ.set k (some d)) := rfl
@[simp] theorem mgNil_e {ρ : En} : mgNil [] ρ = some ρ := rfl
@[simp] theorem mgCons_e {ρ : En} {g : MG} {r : List D → En → Option En} : mgCons g r (d :: ds) ρ = (g d ρ).bind (r ds) := rfl
@[simp] theorem mgT_e {ρ : En} {n : Nat} {r : List D → En → Option En} : mgT n r (.tuple ds) ρ = if ds.length = n then r ds ρ else none := rfl
@[simp] theorem mgL_e {ρ : En} {n : Nat} {r : List D → En → Option En} : mgL n r (.list ds) ρ = if ds.length = n then r ds ρ else none := rfl
@[simp] theorem dAll_b {bs : List Bool} : dAll [.list (bs.map PyData.bool)] = some (.bool (bs.all id)) := by
  have h : ∀ bs : List Bool, bools (bs.map PyData.bool) = some bs := fun bs => by
    induction bs with
    | nil => rfl
    | cons b bs ih =>
      show (bools (bs.map PyData.bool)).map _ = _
      rw [ih]
      rfl
  show (bools (bs.map PyData.bool)).map _ = _
  rw [h]
  rfl
end
structure Eq0 (n : Nat) (d : D) : Prop where
  lay : d.canLay0 = true
  nod : d.hasDict = false
  dep : d.depth ≤ n
theorem Eq0.ok {n : Nat} {d : D} (h : Eq0 n d) (hn : n ≤ 64 := by decide) : eqOk d = true := by
  unfold eqOk SeqAt.shaped
  rw [h.lay, h.nod, decide_eq_true (Nat.le_trans h.dep hn)]
  rfl
theorem Eq0.int {n : Nat} {i : Int} : Eq0 n (.int i) := ⟨rfl, rfl, by simp [PyData.depth]⟩
theorem Eq0.bool {n : Nat} {i : Bool} : Eq0 n (.bool i) := ⟨rfl, rfl, by simp [PyData.depth]⟩
theorem Eq0.none {n : Nat} : Eq0 n .none := ⟨rfl, rfl, by simp [PyData.depth]⟩
theorem eq0_all {n : Nat} : ∀ {ds : List D}, (∀ d, d ∈ ds → Eq0 n d) → PyData.canLayAll0 ds = true ∧ PyData.hasDictAll ds = false ∧ PyData.depthAll ds ≤ n
  | [], _ => ⟨rfl, rfl, Nat.zero_le _⟩
  | d :: ds, h => by
    obtain ⟨a, b, c⟩ := eq0_all fun d m => h d (List.mem_cons_of_mem _ m)
    have z := h d List.mem_cons_self
    refine ⟨?_, ?_, ?_⟩
    · rw [PyData.canLayAll0, z.lay, a]
      rfl
    · rw [PyData.hasDictAll, z.nod, b]
      rfl
    · rw [PyData.depthAll]
      exact Nat.max_le.mpr ⟨z.dep, c⟩
theorem Eq0.list {n : Nat} {ds : List D} (h : ∀ d, d ∈ ds → Eq0 n d) : Eq0 (n + 1) (.list ds) := by
  obtain ⟨a, b, c⟩ := eq0_all h
  exact ⟨by rw [PyData.canLay0]; exact a, by rw [PyData.hasDict]; exact b, by rw [PyData.depth]; omega⟩
theorem Eq0.tuple {n : Nat} {ds : List D} (h : ∀ d, d ∈ ds → Eq0 n d) : Eq0 (n + 1) (.tuple ds) := by
  obtain ⟨a, b, c⟩ := eq0_all h
  exact ⟨by rw [PyData.canLay0]; exact a, by rw [PyData.hasDict]; exact b, by rw [PyData.depth]; omega⟩
theorem Eq0.up {n m : Nat} {d : D} (h : Eq0 n d) (hn : n ≤ m) : Eq0 m d := ⟨h.lay, h.nod, Nat.le_trans h.dep hn⟩
theorem Eq0.ints {ns : List Int} : Eq0 1 (.list (ns.map PyData.int)) := .list fun d m => by
  obtain ⟨n, _, rfl⟩ := List.mem_map.mp m
  exact .int
section
variable {i j : Int} {n m : Nat} {d e x : D} {ds : List D}
@[simp] theorem dEq_i : dEq [.int i, .int j] = some (.bool (decide (i = j))) := by
  unfold dEq
  dsimp only
  rw [Eq0.ok (n := 0) Eq0.int, Eq0.ok (n := 0) Eq0.int, if_pos (by decide), PyData.eqv]
  rfl
@[simp] theorem dNe_i : dNe [.int i, .int j] = some (.bool (!decide (i = j))) := by
  unfold dNe
  dsimp only
  rw [Eq0.ok (n := 0) Eq0.int, Eq0.ok (n := 0) Eq0.int, if_pos (by decide), PyData.eqv]
  rfl
theorem dEq_nil (h : Eq0 n (.list ds)) (hn : n ≤ 64 := by decide) : dEq [.list ds, .list []] = some (.bool ds.isEmpty) := by
  unfold dEq
  dsimp only
  rw [h.ok hn, Eq0.ok (n := 1) (Eq0.list (n := 0) fun _ z => (List.not_mem_nil z).elim), if_pos (by decide)]
  cases ds <;> simp [PyData.eqv, PyData.eqvAll]
end
def lpK (f : Fl) (ρ : En) (K : En → Prop) (Q : Fl → En → Prop) : Prop := match f with
  | .nx => K ρ
  | .ct => K ρ
  | .bk => Q .nx ρ
  | .rt d => Q (.rt d) ρ
section
variable {ρ : En} {Q : Fl → En → Prop} {QD : D → En → Prop} {QI : List D → En → Prop} {d : D}
@[simp] theorem lpK_nx {K : En → Prop} : lpK .nx ρ K Q ↔ K ρ := Iff.rfl
@[simp] theorem lpK_ct {K : En → Prop} : lpK .ct ρ K Q ↔ K ρ := Iff.rfl
@[simp] theorem lpK_bk {K : En → Prop} : lpK .bk ρ K Q ↔ Q .nx ρ := Iff.rfl
@[simp] theorem lpK_rt {K : En → Prop} : lpK (.rt d) ρ K Q ↔ Q (.rt d) ρ := Iff.rfl
@[simp] theorem W_itS {m : M} : W (mItS m ρ) QI ↔ W (m ρ) fun d ρ1 => (∃ ds, (d = .list ds ∨ d = .tuple ds) ∧ QI ds ρ1) := by
  unfold mItS
  rw [W_bind]
  refine ⟨fun h => h.mono fun d ρ1 q => ?_, fun h => h.mono fun d ρ1 ⟨ds, e, q⟩ => ?_⟩
  · cases d <;> first | exact ⟨_, .inl rfl, W_some.mp q⟩ | exact ⟨_, .inr rfl, W_some.mp q⟩ | exact (W_none.mp q).elim
  · rcases e with e | e <;> rw [e] <;> exact W_some.mpr q
@[simp] theorem W_itL {m : M} : W (mItL m ρ) QI ↔ W (m ρ) fun d ρ1 => (∃ ds, d = .list ds ∧ QI ds ρ1) := by
  unfold mItL
  rw [W_bind]
  refine ⟨fun h => h.mono fun d ρ1 q => ?_, fun h => h.mono fun d ρ1 ⟨ds, e, q⟩ => ?_⟩
  · cases d <;> first | exact ⟨_, rfl, W_some.mp q⟩ | exact (W_none.mp q).elim
  · rw [e]
    exact W_some.mpr q
@[simp] theorem W_itB {i : Nat} : W (mItB i ρ) QI ↔ ∃ ds, at? ρ i = some (.list ds) ∧ QI ds ρ := by
  unfold mItB at?
  cases h : ρ[i]? with
  | none => simp
  | some o => cases o with
    | none => simp
    | some d => cases d <;> simp
@[simp] theorem W_rng1 {ma : MA} : W (mRng1 ma ρ) QI ↔ W (ma ρ) fun ds ρ1 => ∃ j, ds = [.int j] ∧ (-(2 ^ 62) ≤ j ∧ j < 2 ^ 62) ∧ QI (dRng 0 j.toNat) ρ1 := by
  unfold mRng1
  rw [W_bind]
  refine ⟨fun h => h.mono fun ds ρ1 q => ?_, fun h => h.mono fun ds ρ1 ⟨j, e, hj, q⟩ => ?_⟩
  · dsimp only at q
    split at q
    · rename_i j
      have q := W_ite.mp q
      split at q
      · rename_i hj
        exact ⟨j, rfl, hj, W_some.mp q⟩
      · exact (W_none.mp q).elim
    · exact (W_none.mp q).elim
  · subst e
    dsimp only
    rw [if_pos hj]
    exact W_some.mpr q
@[simp] theorem W_rng2 {ma : MA} : W (mRng2 ma ρ) QI ↔ W (ma ρ) fun ds ρ1 => ∃ i j, ds = [.int i, .int j] ∧ (-(2 ^ 62) ≤ i ∧ i < 2 ^ 62 ∧ -(2 ^ 62) ≤ j ∧ j < 2 ^ 62) ∧ QI (dRng i (j - i).toNat) ρ1 := by
  unfold mRng2
  rw [W_bind]
  refine ⟨fun h => h.mono fun ds ρ1 q => ?_, fun h => h.mono fun ds ρ1 ⟨i, j, e, hj, q⟩ => ?_⟩
  · dsimp only at q
    split at q
    · rename_i i j
      have q := W_ite.mp q
      split at q
      · rename_i hj
        exact ⟨i, j, rfl, hj, W_some.mp q⟩
      · exact (W_none.mp q).elim
    · exact (W_none.mp q).elim
  · subst e
    dsimp only
    rw [if_pos hj]
    exact W_some.mpr q
@[simp] theorem W_rng3 {ma : MA} : W (mRng3 ma ρ) QI ↔ W (ma ρ) fun ds ρ1 => ∃ i j c, ds = [.int i, .int j, .int c] ∧ rngOk i j c = true ∧ QI (dRngC i c (rngN i j c)) ρ1 := by
  unfold mRng3
  rw [W_bind]
  refine ⟨fun h => h.mono fun ds ρ1 q => ?_, fun h => h.mono fun ds ρ1 ⟨i, j, c, e, hj, q⟩ => ?_⟩
  · dsimp only at q
    split at q
    · rename_i i j c
      have q := W_ite.mp q
      split at q
      · rename_i hj
        exact ⟨i, j, c, rfl, hj, W_some.mp q⟩
      · exact (W_none.mp q).elim
    · exact (W_none.mp q).elim
  · subst e
    dsimp only
    rw [if_pos hj]
    exact W_some.mpr q
@[simp] theorem W_it2 {ks : List Ak} {ma : MA} {f : List D → Option (List D)} : W (mIt2 ks ma f ρ) QI ↔ W (ma ρ) fun ds ρ1 => ∃ es, fill ks ds ρ1 = some es ∧ ∃ z, f es = some z ∧ QI z ρ1 := by
  unfold mIt2
  rw [W_bind]
  refine ⟨fun h => h.mono fun ds ρ1 ⟨a, ρ', e, q⟩ => ?_, fun h => h.mono fun ds ρ1 ⟨es, e1, z, e2, q⟩ => ⟨z, ρ1, by rw [e1]; show (f es).map _ = _; rw [e2]; rfl, q⟩⟩
  obtain ⟨es, e1, e2⟩ := Option.bind_eq_some_iff.mp e
  obtain ⟨z, e3, e4⟩ := Option.map_eq_some_iff.mp e2
  cases e4
  exact ⟨es, e1, _, e3, q⟩
@[simp] theorem wipe_nil : wipeE ρ [] = ρ := rfl
@[simp] theorem wipe_cons {v : Nat} {vs : List Nat} : wipeE ρ (v :: vs) = (wipeE ρ vs).set v none := rfl
theorem rest_same {ρ' : En} {vs : List Nat} (h : wipeE ρ' vs = wipeE ρ vs) : restE ρ vs ρ' = ρ := by
  have hl : ρ'.length = ρ.length := by rw [← wipeE_len (vs := vs), h, wipeE_len]
  refine List.ext_getElem? fun i => ?_
  by_cases m : i ∈ vs
  · by_cases hi : i < ρ.length
    · have main : ∀ us : List Nat, i ∈ us → (restE ρ us ρ')[i]? = ρ[i]? := by
        intro us
        induction us with
        | nil => exact fun h => (List.not_mem_nil h).elim
        | cons v us ih =>
          intro hm
          show ((restE ρ us ρ').set v (ρ.getD v none))[i]? = _
          by_cases e : v = i
          · subst e
            rw [List.getElem?_set_self (by rw [restE_len, hl]; exact hi), List.getD_eq_getElem?_getD, List.getElem?_eq_getElem hi]
            rfl
          · rw [List.getElem?_set_ne e]
            exact ih ((List.mem_cons.mp hm).resolve_left fun z => e z.symm)
      exact main vs m
    · rw [List.getElem?_eq_none (by rw [restE_len]; omega), List.getElem?_eq_none (by omega)]
  · rw [restE_out m, ← wipeE_out (ρ := ρ') m, h, wipeE_out m]
theorem lcL {τ : Type} {u : τ → D} {F : τ → Option D} {g : MG} {t : MT} {e : M} {vs : List Nat} {B : En} : ∀ {xs : List τ} {acc : List D} {ρ : En}, wipeE ρ vs = B →
    (∀ x, x ∈ xs → ∃ ρ1, g (u x) B = some ρ1 ∧ W (t ρ1) fun b ρ2 => if b = true then W (e ρ2) fun y ρ3 => F x = some y ∧ wipeE ρ3 vs = B else F x = none ∧ wipeE ρ2 vs = B) →
    acc.length + xs.length ≤ 1000000 → ∃ ρ', mLcL (xs.map u) g t e vs acc ρ = some (acc ++ xs.filterMap F, ρ') ∧ wipeE ρ' vs = B
  | [], acc, ρ, hw, _, _ => ⟨ρ, by rw [List.filterMap_nil, List.append_nil]; rfl, hw⟩
  | x :: xs, acc, ρ, hw, hs, hl => by
    obtain ⟨ρ1, e1, b, ρ2, e2, q⟩ := hs x List.mem_cons_self
    have hl : acc.length + (xs.length + 1) ≤ 1000000 := hl
    show ∃ ρ', ((g (u x) (wipeE ρ vs)).bind _) = _ ∧ _
    rw [hw, e1]
    show ∃ ρ', ((t ρ1).bind _) = _ ∧ _
    rw [e2]
    show ∃ ρ', (if b = true then _ else _) = _ ∧ _
    split at q
    · rename_i hb
      obtain ⟨y, ρ3, e3, h1, h2⟩ := q
      rw [if_pos hb, e3]
      show ∃ ρ', (if acc.length < 1000000 then _ else _) = _ ∧ _
      rw [if_pos (by omega)]
      obtain ⟨ρ', h3, h4⟩ := lcL (xs := xs) (acc := acc ++ [y]) (ρ := ρ3) h2 (fun x m => hs x (List.mem_cons_of_mem _ m)) (by rw [List.length_append, List.length_singleton]; omega)
      refine ⟨ρ', ?_, h4⟩
      rw [List.filterMap_cons_some h1]
      show mLcL (xs.map u) g t e vs (acc ++ [y]) ρ3 = _
      rw [h3, List.append_assoc]
      rfl
    · rename_i hb
      obtain ⟨h1, h2⟩ := q
      rw [if_neg hb]
      obtain ⟨ρ', h3, h4⟩ := lcL (xs := xs) (acc := acc) (ρ := ρ2) h2 (fun x m => hs x (List.mem_cons_of_mem _ m)) (by omega)
      exact ⟨ρ', by rw [List.filterMap_cons_none h1]; exact h3, h4⟩
end
theorem orD_l {f g : List D → Option D} {ds : List D} {d : D} (h : f ds = some d) : orD f g ds = some d := by
  unfold orD
  rw [h]
  try rfl
theorem orD_r {f g : List D → Option D} {ds : List D} (h : f ds = none) : orD f g ds = g ds := by
  unfold orD
  rw [h]
  try rfl
section
variable {i j : Int} {ds es : List D} {Q : D → En → Prop} {QS : Fl → En → Prop} {ρ : En}
@[simp] theorem dAddU_i : dAddU [.int i, .int j] = some (.int (i + j)) := rfl
@[simp] theorem dIxU_l : dIxU [.list ds, .int i] = atI ds i := by
  unfold dIxU
  show orD dIx dDget _ = _
  unfold orD
  rw [dIx_l]
  cases atI ds i <;> rfl
@[simp] theorem dIxU_t : dIxU [.tuple ds, .int i] = atI ds i := by
  unfold dIxU
  show orD dIx dDget _ = _
  unfold orD
  rw [dIx_t]
  cases atI ds i <;> rfl
@[simp] theorem dLenU_l : dLenU [.list ds] = some (.int ds.length) := rfl
@[simp] theorem dLenU_t : dLenU [.tuple ds] = some (.int ds.length) := rfl
@[simp] theorem dEqU_i : dEqU [.int i, .int j] = some (.bool (decide (i = j))) := orD_l dEq_i
@[simp] theorem dNeU_i : dNeU [.int i, .int j] = some (.bool (!decide (i = j))) := orD_l dNe_i
theorem dEqU_nil {n : Nat} (h : Eq0 n (.list ds)) (hn : n ≤ 64 := by decide) : dEqU [.list ds, .list []] = some (.bool ds.isEmpty) := orD_l (dEq_nil h hn)
theorem divX_of {d : D} (hj : 0 < j) (hJ : j < 2 ^ 64) : dDivX [.int i, .int j] = some d ↔ d = .int (i / j) := by
  have hl : j.natAbs.log2 < 9000 := by
    have h0 : j.natAbs ≠ 0 := by omega
    have : j.natAbs < 2 ^ 64 := by omega
    have := (Nat.log2_lt h0).mpr this
    omega
  show opIc _ _ [.int i, .int j] = _ ↔ _
  unfold opIc
  simp only [decide_eq_true_eq]
  rw [if_pos ⟨by omega, hl⟩, Int.fdiv_eq_ediv_of_nonneg _ (by omega)]
  exact ⟨fun h => by cases h; rfl, fun h => by rw [h]⟩
@[simp] theorem dDivX_i {d : D} (hj : 0 < j) (hJ : j < 1073741824) : dDivX [.int i, .int j] = some d ↔ d = .int (i / j) := divX_of hj (by omega)
@[simp] theorem putU_l {d z : D} : putU (.list ds) (.int j) d = some z ↔ ∃ n, ixN ds.length j = some n ∧ z = .list (ds.set n d) := by
  show (ixN ds.length j).map _ = some z ↔ _
  rw [Option.map_eq_some_iff]
  exact ⟨fun ⟨n, h1, h2⟩ => ⟨n, h1, h2.symm⟩, fun ⟨n, h1, h2⟩ => ⟨n, h1, h2.symm⟩⟩
@[simp] theorem W_putU {k : Nat} {mi mv : M} : W (mPutU k mi mv ρ) QS ↔ W (mv ρ) fun v ρ1 => ∃ d, at? ρ1 k = some d ∧ W (mi ρ1) fun x ρ2 => ∃ c, at? ρ2 k = some c ∧ ∃ z, putU c x v = some z ∧ QS .nx (ρ2.set k (some z)) := by
  unfold mPutU
  rw [W_bind]
  refine ⟨fun h => h.mono fun v ρ1 q => ?_, fun h => h.mono fun v ρ1 q => ?_⟩
  · rw [W_bind, W_br] at q
    obtain ⟨d, h1, q⟩ := q
    refine ⟨d, h1, ?_⟩
    rw [W_bind] at q
    refine q.mono fun x ρ2 q => ?_
    unfold at?
    cases e : ρ2[k]? with
    | none =>
      simp only [e] at q
      exact (W_none.mp q).elim
    | some o =>
      cases o with
      | none =>
        simp only [e] at q
        exact (W_none.mp q).elim
      | some c =>
        simp only [e] at q
        cases e2 : putU c x v with
        | none =>
          rw [e2] at q
          exact (W_none.mp q).elim
        | some z =>
          rw [e2] at q
          exact ⟨c, rfl, z, e2, W_some.mp q⟩
  · obtain ⟨d, h1, q⟩ := q
    rw [W_bind, W_br]
    refine ⟨d, h1, ?_⟩
    rw [W_bind]
    refine q.mono fun x ρ2 ⟨c, h2, z, h3, h4⟩ => ?_
    unfold at? at h2
    cases e : ρ2[k]? with
    | none =>
      rw [e] at h2
      cases h2
    | some o =>
      rw [e] at h2
      have h2 : o = some c := h2
      subst h2
      exact ⟨_, _, by simp only [e]; rw [h3]; rfl, h4⟩
end
def mL_town : MS := (mRet (m2 (.ow) (.ow) (mLst (maCons (mC (.int 0)) maNil)) (mOp [.fz] (maCons (mVar 0) maNil) dList) dCat))
def fL_town : En → Option (D × En) := mFun [.fz] 0 .ow mL_town
def mL_draw : MS := (mSeq (mPutU 1 (mC (.int 0)) (m2 (.fz) (.fz) (m2 (.br 1) (.fz) (mBr 1) (mC (.int 0)) dIxU) (mC (.int 1)) dAddU))
  (mSeq (mIte (mTr (m2 (.fz) (.ow) (mVar 0) (mLst maNil) dEqU)) (mRet (m2 (.fz) (.fz) (m2 (.fz) (.fz) (m2 (.fz) (.fz) (m2 (.fz) (.fz) (m2 (.br 1) (.fz) (mBr 1) (mC (.int 0)) dIxU) (m2 (.br 1) (.fz) (mBr 1) (mC (.int 0)) dIxU) dMul) (mC (.int 7)) dMul) (mC (.int 3)) dDivX) (mVar 2) dMod)) mSkip)
  (mSeq (mSet 3 (m2 (.fz) (.fz) (m2 (.br 1) (.fz) (mBr 1) (mC (.int 0)) dIxU) (mOp [.fz] (maCons (mVar 0) maNil) dLenU) dMod))
  (mSeq (mSet 4 (m2 (.br 1) (.fz) (mBr 1) (m2 (.fz) (.fz) (mC (.int 1)) (mVar 3) dAddU) dIxU))
  (mSeq (mIte (mAnd (mTr (m2 (.fz) (.fz) (m2 (.fz) (.fz) (mVar 0) (mVar 3) dIxU) (m2 (.fz) (.fz) (mC (.int 10)) (mC (.int 18)) dPow) dGe)) (mTr (m2 (.fz) (.fz) (mVar 4) (mC (.int 0)) dGt))) (mSeq (mPutU 1 (m2 (.fz) (.fz) (mC (.int 1)) (mVar 3) dAddU) (m2 (.fz) (.fz) (mVar 4) (mVar 2) dDivX))
  (mRet (m2 (.fz) (.fz) (mVar 4) (mVar 2) dMod))) mSkip)
  (mSeq (mSet 5 (m2 (.fz) (.fz) (m2 (.fz) (.fz) (m2 (.fz) (.fz) (mVar 0) (mVar 3) dIxU) (m2 (.fz) (.fz) (mC (.int 104729)) (m2 (.br 1) (.fz) (mBr 1) (mC (.int 0)) dIxU) dMul) dAddU) (mC (.int 4294967291)) dMod))
  (mSeq (mSet 5 (m2 (.fz) (.fz) (m2 (.fz) (.fz) (mVar 5) (mC (.int 5)) dPow) (mC (.int 4294967279)) dMod))
  (mRet (m2 (.fz) (.fz) (m2 (.fz) (.fz) (m2 (.fz) (.fz) (m2 (.fz) (.fz) (m2 (.fz) (.fz) (m2 (.fz) (.fz) (mVar 5) (mC (.int 64)) dDivX) (mC (.int 69621)) dMul) (mVar 5) dAddU) (mC (.int 4294967231)) dMod) (mC (.int 8)) dDivX) (mVar 2) dMod)))))))))
def fL_draw : En → Option (D × En) := mFun [.fz, .io, .fz] 3 .fz mL_draw
def mL_pick : MS := (mRet (m2 (.fz) (.fz) (mVar 2) (mCall fL_draw [.fz, .br 1, .fz] [] (maCons (mVar 0) (maCons (mBr 1) (maCons (mOp [.fz] (maCons (mVar 2) maNil) dLenU) maNil)))) dIxU))
def fL_pick : En → Option (D × En) := mFun [.fz, .io, .fz] 0 .fz mL_pick
abbrev dI (i : Int) : D := .int i
abbrev dL (ns : List Int) : D := .list (ns.map PyData.int)
def Town (ns : List Int) (k : Nat) (t : D) : Prop := ∃ (c : Int) (cs : List Int), t = dL (c :: cs) ∧ 0 ≤ c ∧ c ≤ k ∧ cs.length = ns.length
theorem Town.up {ns : List Int} {k k' : Nat} {t : D} (h : Town ns k t) (hk : k ≤ k') : Town ns k' t := by
  obtain ⟨c, cs, e, h1, h2, h3⟩ := h
  exact ⟨c, cs, e, h1, by omega, h3⟩
theorem map_set_int {ns : List Int} {n : Nat} {i : Int} : (ns.map PyData.int).set n (.int i) = (ns.set n i).map PyData.int := by
  rw [List.map_set]
theorem atI_ints {ns : List Int} {i : Int} (h0 : 0 ≤ i) (h1 : i < ns.length) : atI (ns.map PyData.int) i = some (.int (ns.getD i.toNat 0)) := by
  have e : i = (i.toNat : Int) := by omega
  have hl : i.toNat < ns.length := by omega
  rw [e, atI_nat (v := .int (ns.getD i.toNat 0))]
  · rfl
  · rw [List.getElem?_map, List.getD_eq_getElem?_getD, List.getElem?_eq_getElem hl]
    rfl
theorem ixN_int {n : Nat} {i : Int} (h0 : 0 ≤ i) (h1 : i < n) : ixN n i = some i.toNat := by
  have e : i = (i.toNat : Int) := by omega
  conv => lhs; rw [e]
  unfold ixN
  rw [if_pos (by omega), if_pos (by omega)]
  show some (i.toNat : Int).toNat = _
  rw [Int.toNat_natCast]
theorem town_ok {ns : List Int} (hn : ns.length ≤ 63) : W (fL_town [some (dL ns)]) fun d out => out = [none] ∧ Town ns 0 d := by
  unfold fL_town mL_town
  rw [W_fn]
  simp
  exact ⟨by omega, 0, ns, rfl, by omega, by omega, rfl⟩
theorem draw_ok {ns : List Int} {k : Nat} {t : D} {many : Int} (hT : Town ns k t) (hk : k < 1000000) (hm : 0 < many) (hM : many < 1073741824) :
    W (fL_draw [some (dL ns), some t, some (dI many)]) fun d out => ∃ r t', d = .int r ∧ 0 ≤ r ∧ r < many ∧ out = [none, some t', none] ∧ Town ns (k + 1) t' := by
  obtain ⟨c, cs, rfl, h1, h2, h3⟩ := hT
  have modlt : ∀ x : Int, 0 ≤ x % many ∧ x % many < many := fun x => ⟨Int.emod_nonneg _ (by omega), Int.emod_lt_of_pos _ hm⟩
  generalize hQ : (fun (d : D) (out : En) => ∃ r t', d = .int r ∧ 0 ≤ r ∧ r < many ∧ out = [none, some t', none] ∧ Town ns (k + 1) t') = Q
  have fin : ∀ (x : Int) (cs' : List Int), cs'.length = ns.length → Q (.int (x % many)) [none, some (dL ((c + 1) :: cs')), none] := fun x cs' hl => by
    rw [← hQ]
    exact ⟨_, _, rfl, (modlt x).1, (modlt x).2, rfl, c + 1, cs', rfl, by omega, by omega, hl⟩
  have finL : ∀ (x : Int) (ds : List D) (cs' : List Int), ds = cs'.map PyData.int → cs'.length = ns.length → Q (.int (x % many)) [none, some (.list (.int (c + 1) :: ds)), none] := fun x ds cs' e hl => by
    rw [e]
    exact fin x cs' hl
  unfold fL_draw mL_draw
  rw [W_fn, W_seq]
  simp
  rw [W_seq]
  simp [dEqU_nil Eq0.ints]
  cases ns with
  | nil =>
    simp [hm]
    refine ⟨mulOk_of (by omega) (by omega), mulOk_of ?_ (by omega), finL _ _ cs rfl h3⟩
    rw [Int.natAbs_mul]
    exact Nat.lt_of_le_of_lt (Nat.mul_le_mul (show (c + 1).natAbs ≤ 1000001 by omega) (show (c + 1).natAbs ≤ 1000001 by omega)) (by decide)
  | cons n0 ns0 =>
    have hl : (0 : Int) < ↑ns0.length + 1 := by omega
    have hl3 : cs.length = ns0.length + 1 := h3
    simp
    rw [W_seq]
    simp [hl]
    have p1 := Int.emod_nonneg (c + 1) (show ((ns0.length : Int) + 1) ≠ 0 by omega)
    have p2 := Int.emod_lt_of_pos (c + 1) hl
    generalize (c + 1) % ((ns0.length : Int) + 1) = at_ at p1 p2 ⊢
    have h5 : atI (PyData.int (c + 1) :: cs.map PyData.int) (1 + at_) = some (.int (((c + 1) :: cs).getD (1 + at_).toNat 0)) := atI_ints (ns := (c + 1) :: cs) (by omega) (by rw [List.length_cons]; omega)
    generalize ((c + 1) :: cs).getD (1 + at_).toNat 0 = left at h5
    have h6 : atI (PyData.int n0 :: ns0.map PyData.int) at_ = some (.int ((n0 :: ns0).getD at_.toNat 0)) := atI_ints (ns := n0 :: ns0) (by omega) (by rw [List.length_cons]; omega)
    generalize (n0 :: ns0).getD at_.toNat 0 = cell at h6
    rw [W_seq]
    simp [h5]
    rw [W_seq]
    simp [h6]
    have rest : ∀ ρ : En, ρ = [some (dL (n0 :: ns0)), some (.list (.int (c + 1) :: cs.map PyData.int)), some (dI many), some (dI at_), some (dI left), none] → W (mSeq (mSet 5 (m2 (.fz) (.fz) (m2 (.fz) (.fz) (m2 (.fz) (.fz) (mVar 0) (mVar 3) dIxU) (m2 (.fz) (.fz) (mC (.int 104729)) (m2 (.br 1) (.fz) (mBr 1) (mC (.int 0)) dIxU) dMul) dAddU) (mC (.int 4294967291)) dMod))
  (mSeq (mSet 5 (m2 (.fz) (.fz) (m2 (.fz) (.fz) (mVar 5) (mC (.int 5)) dPow) (mC (.int 4294967279)) dMod))
  (mRet (m2 (.fz) (.fz) (m2 (.fz) (.fz) (m2 (.fz) (.fz) (m2 (.fz) (.fz) (m2 (.fz) (.fz) (m2 (.fz) (.fz) (mVar 5) (mC (.int 64)) dDivX) (mC (.int 69621)) dMul) (mVar 5) dAddU) (mC (.int 4294967231)) dMod) (mC (.int 8)) dDivX) (mVar 2) dMod))) ρ) (fnK [.fz, .io, .fz] .fz Q) := by
      rintro ρ rfl
      rw [W_seq]
      simp [h6]
      have q1 := Int.emod_nonneg (cell + 104729 * (c + 1)) (show (4294967291 : Int) ≠ 0 by decide)
      have q2 := Int.emod_lt_of_pos (cell + 104729 * (c + 1)) (show (0 : Int) < 4294967291 by decide)
      generalize (cell + 104729 * (c + 1)) % 4294967291 = x at q1 q2 ⊢
      refine ⟨mulOk_of (by omega) (by omega), ?_⟩
      rw [W_seq]
      simp
      refine ⟨by omega, ?_⟩
      have q3 := Int.emod_nonneg (x ^ 5) (show (4294967279 : Int) ≠ 0 by decide)
      have q4 := Int.emod_lt_of_pos (x ^ 5) (show (0 : Int) < 4294967279 by decide)
      generalize x ^ 5 % 4294967279 = y at q3 q4 ⊢
      simp [hm]
      exact ⟨mulOk_of (by omega) (by omega), finL _ _ cs rfl h3⟩
    by_cases z1 : (10 : Int) ^ 18 ≤ cell <;> by_cases z2 : (0 : Int) < left
    all_goals simp at z1
    all_goals simp [z1, z2]
    · refine .inr (.inr ?_)
      rw [W_seq]
      simp [hm, hM]
      refine ⟨_, ⟨(1 + at_).toNat, ixN_int (by omega) (by omega), rfl⟩, ?_⟩
      have e : (1 + at_).toNat = at_.toNat + 1 := by omega
      rw [e, List.set_cons_succ, map_set_int]
      exact finL _ _ _ rfl (by rw [List.length_set]; exact h3)
    all_goals first | exact rest _ rfl | exact .inl (rest _ rfl) | exact .inl ⟨by omega, rest _ rfl⟩ | exact .inr ⟨by omega, rest _ rfl⟩ | exact .inr (.inl ⟨by omega, rest _ rfl⟩)
theorem atI_mem {α : Type} {xs : List α} {i : Int} (h0 : 0 ≤ i) (h1 : i < xs.length) : ∃ v, atI xs i = some v ∧ v ∈ xs := by
  have e : i = (i.toNat : Int) := by omega
  have hl : i.toNat < xs.length := by omega
  refine ⟨xs[i.toNat], ?_, List.getElem_mem _⟩
  exact (congrArg (atI xs) e).trans (atI_nat (List.getElem?_eq_getElem hl))
theorem pick_ok {ns : List Int} {k : Nat} {t : D} {xs : List D} (hT : Town ns k t) (hk : k < 1000000) (hm : 0 < xs.length) (hM : xs.length < 1073741824) :
    W (fL_pick [some (dL ns), some t, some (.list xs)]) fun d out => ∃ t', d ∈ xs ∧ out = [none, some t', none] ∧ Town ns (k + 1) t' := by
  unfold fL_pick mL_pick
  rw [W_fn]
  simp
  refine (draw_ok hT hk (many := xs.length) (by omega) (by omega)).mono fun d out ⟨r, t', e1, h1, h2, e2, h3⟩ => ?_
  subst e1 e2
  obtain ⟨v, h4, h5⟩ := atI_mem h1 h2
  simp
  exact ⟨v, h4, h5, h3⟩
section
variable {ρ ρ1 ρ2 : En} {a b : MS} {c : MT} {m : M} {d : D} {i : Nat} {ma : MA} {ks : List Ak} {dd ds es : List D} {mf : En → Option (D × En)} {o : En}
end
def m_is_number : MS := (mRet (mAndV (m1 (.fz) (mVar 0) (dIs "int")) (mAndV (mNotV (m1 (.fz) (mVar 0) (dIs "bool"))) (mChain (fun i j => decide (i ≤ j)) (fun i j => decide (i ≤ j)) (mVar 1) (mVar 0) (mVar 2)))))
def f_is_number : En → Option (D × En) := mFun [.fz, .fz, .fz] 0 .fz m_is_number
def m_is_name : MS := (mRet (mAndV (m1 (.fz) (mVar 0) (dIs "str")) (mAndV (mChain (fun i j => decide (i ≤ j)) (fun i j => decide (i ≤ j)) (mC (.int 1)) (mOp [.fz] (maCons (mVar 0) maNil) dLenU) (mC (.int 4))) (mOp [.ow] (maCons (mLc (mItU (mVar 0)) (mgN 1) mYes (m2 (.fz) (.fz) (mVar 1) (mC (.str "abcdefghijklmnopqrstuvwxyz")) dInU) [1]) maNil) dAll))))
def f_is_name : En → Option (D × En) := mFun [.fz] 1 .fz m_is_name
def m_is_kind : MS := (mRet (mAndV (m1 (.fz) (mVar 0) (dIs "str")) (mAndV (mChain (fun i j => decide (i ≤ j)) (fun i j => decide (i ≤ j)) (mC (.int 1)) (mOp [.fz] (maCons (mVar 0) maNil) dLenU) (mC (.int 8))) (mOp [.ow] (maCons (mLc (mItU (mVar 0)) (mgN 1) mYes (m2 (.fz) (.fz) (mVar 1) (m2 (.fz) (.fz) (mC (.str "abcdefghijklmnopqrstuvwxyz")) (mC (.str "ABCDEFGHIJKLMNOPQRSTUVWXYZ")) dAddU) dInU) [1]) maNil) dAll))))
def f_is_kind : En → Option (D × En) := mFun [.fz] 1 .fz m_is_kind
def m_is_value : MS := (mRet (mOrV (m2 (.fz) (.fz) (mVar 0) (mC .none) dIsN) (mOrV (m1 (.fz) (mVar 0) (dIs "bool")) (mOrV (mCall f_is_number [.fz, .fz, .fz] [] (maCons (mVar 0) (maCons (m1 (.fz) (mVar 1) dNeg) (maCons (mVar 1) maNil)))) (mCall f_is_kind [.fz] [] (maCons (mVar 0) maNil))))))
def f_is_value : En → Option (D × En) := mFun [.fz, .fz] 0 .fz m_is_value
def m_is_mark : MS := (mRet (mCall f_is_number [.fz, .fz, .fz] [] (maCons (mVar 0) (maCons (mC (.int 0)) (maCons (mC (.int 99)) maNil)))))
def f_is_mark : En → Option (D × En) := mFun [.fz] 0 .fz m_is_mark
def m_is_row : MS := (mSeq (mIte (mOr (mNot (mTr (m1 (.fz) (mVar 0) (dIs "tuple")))) (mOr (mTr (m2 (.fz) (.fz) (mOp [.fz] (maCons (mVar 0) maNil) dLenU) (mC (.int 3)) dNeU)) (mNot (mTr (m1 (.fz) (m2 (.fz) (.fz) (mVar 0) (mC (.int 0)) dIxU) (dIs "str")))))) (mRet (mC (.bool false))) mSkip)
  (mSeq (mAsg (mgT 3 (mgCons (mgN 1) (mgCons (mgN 2) (mgCons (mgN 3) mgNil)))) (mVar 0))
  (mSeq (mIte (mNot (mTr (mCall f_is_number [.fz, .fz, .fz] [] (maCons (mVar 3) (maCons (mC (.int 0)) (maCons (mC (.int 9999)) maNil)))))) (mRet (mC (.bool false))) mSkip)
  (mSeq (mIte (mTr (m1 (.fz) (mVar 1) (dKin false [("copy", (.int 1)), ("swap", (.int 2))]))) (mRet (mCall f_is_number [.fz, .fz, .fz] [] (maCons (mVar 2) (maCons (m1 (.fz) (mVar 1) (dKget [("copy", (.int 1)), ("swap", (.int 2))])) (maCons (mC (.int 9)) maNil))))) mSkip)
  (mSeq (mIte (mTr (m2 (.fz) (.fz) (mVar 1) (mC (.tuple [(.str "load"), (.str "quick"), (.str "store"), (.str "clear")])) dInU)) (mRet (mCall f_is_name [.fz] [] (maCons (mVar 2) maNil))) mSkip)
  (mSeq (mIte (mOr (mTr (m2 (.fz) (.fz) (mVar 1) (mC (.str "label")) dEqU)) (mTr (m2 (.fz) (.fz) (mVar 1) (mC (.tuple [(.str "jump"), (.str "iftrue"), (.str "iffalse"), (.str "ortrue"), (.str "orfalse"), (.str "try")])) dInU))) (mRet (mCall f_is_mark [.fz] [] (maCons (mVar 2) maNil))) mSkip)
  (mRet (mIf (mTr (m2 (.fz) (.fz) (mVar 1) (mC (.tuple [(.str "push")])) dInU)) (mCall f_is_value [.fz, .fz] [] (maCons (mVar 2) (maCons (mC (.int 1000000000)) maNil))) (mAndV (m2 (.fz) (.fz) (mVar 1) (mC (.tuple [(.str "add"), (.str "sub"), (.str "mul"), (.str "div"), (.str "rest"), (.str "less"), (.str "same"), (.str "drop"), (.str "neg"), (.str "not"), (.str "tell"), (.str "return"), (.str "raise"), (.str "endtry")])) dInU) (m2 (.fz) (.fz) (mVar 2) (mC .none) dIsN))))))))))
def f_is_row : En → Option (D × En) := mFun [.fz] 3 .fz m_is_row
def m_bad_place : MS := (mSeq (mSet 1 (mLc (mItU (mVar 0)) (mgN 4) (mAnd (mTr (mCall f_is_row [.fz] [] (maCons (mVar 4) maNil))) (mTr (m2 (.fz) (.fz) (m2 (.fz) (.fz) (mVar 4) (mC (.int 0)) dIxU) (mC (.str "label")) dEqU))) (m2 (.fz) (.fz) (mVar 4) (mC (.int 1)) dIxU) [4]))
  (mSeq (mSet 2 (mLst maNil))
  (mSeq (mFor (mIt2 [.fz] (maCons (mVar 0) maNil) dEnum) (mgT 2 (mgCons (mgN 3) (mgCons (mgN 4) mgNil))) (mSeq (mIte (mOr (mNot (mTr (mCall f_is_row [.fz] [] (maCons (mVar 4) maNil)))) (mAnd (mTr (m2 (.fz) (.fz) (m2 (.fz) (.fz) (mVar 4) (mC (.int 0)) dIxU) (mC (.tuple [(.str "jump"), (.str "iftrue"), (.str "iffalse"), (.str "ortrue"), (.str "orfalse"), (.str "try")])) dInU)) (mTr (m2 (.fz) (.fz) (m2 (.fz) (.fz) (mVar 4) (mC (.int 1)) dIxU) (mVar 1) dNinU)))) (mRet (mVar 3)) mSkip)
  (mIte (mTr (m2 (.fz) (.fz) (m2 (.fz) (.fz) (mVar 4) (mC (.int 0)) dIxU) (mC (.str "label")) dEqU)) (mSeq (mIte (mTr (m2 (.fz) (.br 2) (m2 (.fz) (.fz) (mVar 4) (mC (.int 1)) dIxU) (mBr 2) dInU)) (mRet (mVar 3)) mSkip)
  (mDrop (mMut 2 "list" (maCons (m2 (.fz) (.fz) (mVar 4) (mC (.int 1)) dIxU) maNil) dAppend))) mSkip)))
  (mRet (mC .none)))))
def f_bad_place : En → Option (D × En) := mFun [.fz] 4 .fz m_bad_place
def m_look_code : MS := (mSeq (mIte (mOr (mNot (mTr (m1 (.fz) (mVar 0) (dIs "list")))) (mNot (mTr (mChain (fun i j => decide (i ≤ j)) (fun i j => decide (i ≤ j)) (mC (.int 1)) (mOp [.fz] (maCons (mVar 0) maNil) dLenU) (mC (.int 150)))))) mNever mSkip)
  (mSeq (mSet 1 (mCall f_bad_place [.fz] [] (maCons (mVar 0) maNil)))
  (mIte (mTr (m2 (.fz) (.fz) (mVar 1) (mC .none) dNotN)) mNever mSkip)))
def f_look_code : En → Option (D × En) := mFun [.fz] 1 .fz m_look_code
def m_takes : MS := (mSeq (mAsg (mgT 3 (mgCons (mgN 1) (mgCons (mgN 2) (mgCons (mgN 3) mgNil)))) (mVar 0))
  (mSeq (mIte (mTr (m2 (.fz) (.fz) (mVar 1) (mTup (maCons (mC (.str "copy")) (maCons (mC (.str "swap")) maNil))) dInU)) (mRet (mVar 2)) mSkip)
  (mSeq (mIte (mTr (m2 (.fz) (.fz) (mVar 1) (mC (.tuple [(.str "add"), (.str "sub"), (.str "mul"), (.str "div"), (.str "rest"), (.str "less"), (.str "same")])) dInU)) (mRet (mC (.int 2))) mSkip)
  (mRet (mOp [.fz] (maCons (mOrV (m2 (.fz) (.fz) (mVar 1) (mTup (maCons (mC (.str "store")) (maCons (mC (.str "drop")) (maCons (mC (.str "neg")) (maCons (mC (.str "not")) (maCons (mC (.str "tell")) (maCons (mC (.str "return")) (maCons (mC (.str "raise")) maNil)))))))) dInU) (m2 (.fz) (.fz) (mVar 1) (mC (.tuple [(.str "iftrue"), (.str "iffalse"), (.str "ortrue"), (.str "orfalse")])) dInU)) maNil) dInt)))))
def f_takes : En → Option (D × En) := mFun [.fz] 3 .fz m_takes
def m_grows : MS := (mSeq (mSet 1 (m2 (.fz) (.fz) (mVar 0) (mC (.int 0)) dIxU))
  (mSeq (mIte (mTr (m2 (.fz) (.fz) (mVar 1) (mTup (maCons (mC (.str "push")) (maCons (mC (.str "load")) (maCons (mC (.str "quick")) (maCons (mC (.str "copy")) maNil))))) dInU)) (mRet (mC (.int 1))) mSkip)
  (mRet (mIf (mOr (mTr (m2 (.fz) (.fz) (mVar 1) (mC (.tuple [(.str "add"), (.str "sub"), (.str "mul"), (.str "div"), (.str "rest"), (.str "less"), (.str "same")])) dInU)) (mTr (m2 (.fz) (.fz) (mVar 1) (mTup (maCons (mC (.str "store")) (maCons (mC (.str "drop")) (maCons (mC (.str "tell")) maNil)))) dInU))) (m1 (.fz) (mC (.int 1)) dNeg) (mC (.int 0))))))
def f_grows : En → Option (D × En) := mFun [.fz] 1 .fz m_grows
def m__law_town : MS := (mRet (m2 (.ow) (.ow) (mLst (maCons (mC (.int 0)) maNil)) (mOp [.fz] (maCons (mVar 0) maNil) dList) dCat))
def f__law_town : En → Option (D × En) := mFun [.fz] 0 .ow m__law_town
def m__law_draw : MS := (mSeq (mPutU 1 (mC (.int 0)) (m2 (.fz) (.fz) (m2 (.br 1) (.fz) (mBr 1) (mC (.int 0)) dIxU) (mC (.int 1)) dAddU))
  (mSeq (mIte (mTr (m2 (.fz) (.ow) (mVar 0) (mLst maNil) dEqU)) (mRet (m2 (.fz) (.fz) (m2 (.fz) (.fz) (m2 (.fz) (.fz) (m2 (.fz) (.fz) (m2 (.br 1) (.fz) (mBr 1) (mC (.int 0)) dIxU) (m2 (.br 1) (.fz) (mBr 1) (mC (.int 0)) dIxU) dMul) (mC (.int 7)) dMul) (mC (.int 3)) dDivX) (mVar 2) dMod)) mSkip)
  (mSeq (mSet 3 (m2 (.fz) (.fz) (m2 (.br 1) (.fz) (mBr 1) (mC (.int 0)) dIxU) (mOp [.fz] (maCons (mVar 0) maNil) dLenU) dMod))
  (mSeq (mSet 4 (m2 (.br 1) (.fz) (mBr 1) (m2 (.fz) (.fz) (mC (.int 1)) (mVar 3) dAddU) dIxU))
  (mSeq (mIte (mAnd (mTr (m2 (.fz) (.fz) (m2 (.fz) (.fz) (mVar 0) (mVar 3) dIxU) (m2 (.fz) (.fz) (mC (.int 10)) (mC (.int 18)) dPow) dGe)) (mTr (m2 (.fz) (.fz) (mVar 4) (mC (.int 0)) dGt))) (mSeq (mPutU 1 (m2 (.fz) (.fz) (mC (.int 1)) (mVar 3) dAddU) (m2 (.fz) (.fz) (mVar 4) (mVar 2) dDivX))
  (mRet (m2 (.fz) (.fz) (mVar 4) (mVar 2) dMod))) mSkip)
  (mSeq (mSet 5 (m2 (.fz) (.fz) (m2 (.fz) (.fz) (m2 (.fz) (.fz) (mVar 0) (mVar 3) dIxU) (m2 (.fz) (.fz) (mC (.int 104729)) (m2 (.br 1) (.fz) (mBr 1) (mC (.int 0)) dIxU) dMul) dAddU) (mC (.int 4294967291)) dMod))
  (mSeq (mSet 5 (m2 (.fz) (.fz) (m2 (.fz) (.fz) (mVar 5) (mC (.int 5)) dPow) (mC (.int 4294967279)) dMod))
  (mRet (m2 (.fz) (.fz) (m2 (.fz) (.fz) (m2 (.fz) (.fz) (m2 (.fz) (.fz) (m2 (.fz) (.fz) (m2 (.fz) (.fz) (mVar 5) (mC (.int 64)) dDivX) (mC (.int 69621)) dMul) (mVar 5) dAddU) (mC (.int 4294967231)) dMod) (mC (.int 8)) dDivX) (mVar 2) dMod)))))))))
def f__law_draw : En → Option (D × En) := mFun [.fz, .io, .fz] 3 .fz m__law_draw
def m__law_pick : MS := (mRet (m2 (.fz) (.fz) (mVar 2) (mCall f__law_draw [.fz, .br 1, .fz] [] (maCons (mVar 0) (maCons (mBr 1) (maCons (mOp [.fz] (maCons (mVar 2) maNil) dLenU) maNil)))) dIxU))
def f__law_pick : En → Option (D × En) := mFun [.fz, .io, .fz] 0 .fz m__law_pick
def m__law_const : MS := (mRet (mCall f__law_pick [.fz, .br 1, .fz] [] (maCons (mVar 0) (maCons (mBr 1) (maCons (mLst (maCons (mC (.int 0)) (maCons (mC (.int 1)) (maCons (mC (.int 2)) (maCons (mC (.int 3)) (maCons (m1 (.fz) (mC (.int 4)) dNeg) (maCons (mC (.int 7)) (maCons (m2 (.fz) (.fz) (mC (.int 10)) (mC (.int 9)) dPow) (maCons (mC (.bool true)) (maCons (mC (.bool false)) (maCons (mC .none) (maCons (mC (.str "Oops")) (maCons (mC (.str "Zero")) maNil))))))))))))) maNil)))))
def f__law_const : En → Option (D × En) := mFun [.fz, .io] 0 .fz m__law_const
def m__law_shown : MS := (mRet (m1 (.fz) (mVar 0) dShow))
def f__law_shown : En → Option (D × En) := mFun [.fz] 0 .fz m__law_shown
def m__law_put : MS := (mDrop (mMut 0 "list" (maCons (mTup (maCons (mVar 1) (maCons (mVar 2) (maCons (m2 (.fz) (.fz) (mC (.int 10)) (m2 (.fz) (.fz) (mOp [.br 0] (maCons (mBr 0) maNil) dLenU) (mC (.int 2)) dDivX) dAddU) maNil)))) maNil) dAppend))
def f__law_put : En → Option (D × En) := mFun [.io, .fz, .fz] 0 .fz m__law_put
def m__law_mark : MS := (mSeq (mDrop (mMut 0 "list" (maCons (mOp [.br 0] (maCons (mBr 0) maNil) dLenU) maNil) dAppend))
  (mRet (m2 (.br 0) (.fz) (mBr 0) (m1 (.fz) (mC (.int 1)) dNeg) dIxU)))
def f__law_mark : En → Option (D × En) := mFun [.io] 0 .fz m__law_mark
def m__law_value (r__law_value r__law_tried_value r__law_moved_value : En → Option (D × En)) : MS := (mSeq (mSet 5 (mIf (mTr (m2 (.fz) (.fz) (mVar 4) (mC (.int 0)) dGt)) (mCall f__law_draw [.fz, .br 1, .fz] [] (maCons (mVar 0) (maCons (mBr 1) (maCons (mC (.int 12)) maNil)))) (mCall f__law_draw [.fz, .br 1, .fz] [] (maCons (mVar 0) (maCons (mBr 1) (maCons (mC (.int 4)) maNil))))))
  (mIte (mTr (m2 (.fz) (.fz) (mVar 5) (mC (.int 2)) dLt)) (mDrop (mCall f__law_put [.br 2, .fz, .fz] [] (maCons (mBr 2) (maCons (mC (.str "push")) (maCons (mCall f__law_const [.fz, .br 1] [] (maCons (mVar 0) (maCons (mBr 1) maNil))) maNil))))) (mIte (mTr (m2 (.fz) (.fz) (mVar 5) (mC (.int 4)) dLt)) (mDrop (mCall f__law_put [.br 2, .fz, .fz] [] (maCons (mBr 2) (maCons (mC (.str "load")) (maCons (mCall f__law_pick [.fz, .br 1, .fz] [] (maCons (mVar 0) (maCons (mBr 1) (maCons (mLst (maCons (mC (.str "a")) (maCons (mC (.str "b")) (maCons (mC (.str "c")) maNil)))) maNil)))) maNil))))) (mIte (mTr (m2 (.fz) (.fz) (mVar 5) (mC (.int 7)) dLt)) (mSeq (mDrop (mCall r__law_value [.fz, .br 1, .br 2, .br 3, .fz] [] (maCons (mVar 0) (maCons (mBr 1) (maCons (mBr 2) (maCons (mBr 3) (maCons (m2 (.fz) (.fz) (mVar 4) (mC (.int 1)) dSub) maNil)))))))
  (mSeq (mDrop (mCall r__law_value [.fz, .br 1, .br 2, .br 3, .fz] [] (maCons (mVar 0) (maCons (mBr 1) (maCons (mBr 2) (maCons (mBr 3) (maCons (m2 (.fz) (.fz) (mVar 4) (mC (.int 1)) dSub) maNil)))))))
  (mDrop (mCall f__law_put [.br 2, .fz] [.none] (maCons (mBr 2) (maCons (mCall f__law_pick [.fz, .br 1, .fz] [] (maCons (mVar 0) (maCons (mBr 1) (maCons (mLst (maCons (mC (.str "add")) (maCons (mC (.str "sub")) (maCons (mC (.str "mul")) (maCons (mC (.str "div")) (maCons (mC (.str "rest")) (maCons (mC (.str "less")) (maCons (mC (.str "same")) maNil)))))))) maNil)))) maNil)))))) (mIte (mTr (m2 (.fz) (.fz) (mVar 5) (mC (.int 7)) dEqU)) (mSeq (mDrop (mCall r__law_value [.fz, .br 1, .br 2, .br 3, .fz] [] (maCons (mVar 0) (maCons (mBr 1) (maCons (mBr 2) (maCons (mBr 3) (maCons (m2 (.fz) (.fz) (mVar 4) (mC (.int 1)) dSub) maNil)))))))
  (mDrop (mCall f__law_put [.br 2, .fz] [.none] (maCons (mBr 2) (maCons (mCall f__law_pick [.fz, .br 1, .fz] [] (maCons (mVar 0) (maCons (mBr 1) (maCons (mLst (maCons (mC (.str "neg")) (maCons (mC (.str "not")) maNil))) maNil)))) maNil))))) (mIte (mTr (m2 (.fz) (.fz) (mVar 5) (mC (.int 8)) dEqU)) (mSeq (mSet 6 (mCall f__law_mark [.br 3] [] (maCons (mBr 3) maNil)))
  (mSeq (mDrop (mCall r__law_value [.fz, .br 1, .br 2, .br 3, .fz] [] (maCons (mVar 0) (maCons (mBr 1) (maCons (mBr 2) (maCons (mBr 3) (maCons (m2 (.fz) (.fz) (mVar 4) (mC (.int 1)) dSub) maNil)))))))
  (mSeq (mDrop (mCall f__law_put [.br 2, .fz, .fz] [] (maCons (mBr 2) (maCons (mCall f__law_pick [.fz, .br 1, .fz] [] (maCons (mVar 0) (maCons (mBr 1) (maCons (mLst (maCons (mC (.str "ortrue")) (maCons (mC (.str "orfalse")) maNil))) maNil)))) (maCons (mVar 6) maNil)))))
  (mSeq (mDrop (mCall r__law_value [.fz, .br 1, .br 2, .br 3, .fz] [] (maCons (mVar 0) (maCons (mBr 1) (maCons (mBr 2) (maCons (mBr 3) (maCons (m2 (.fz) (.fz) (mVar 4) (mC (.int 1)) dSub) maNil)))))))
  (mDrop (mCall f__law_put [.br 2, .fz, .fz] [] (maCons (mBr 2) (maCons (mC (.str "label")) (maCons (mVar 6) maNil))))))))) (mIte (mTr (m2 (.fz) (.fz) (mVar 5) (mC (.int 9)) dEqU)) (mDrop (mCall r__law_tried_value [.fz, .br 1, .br 2, .br 3, .fz] [] (maCons (mVar 0) (maCons (mBr 1) (maCons (mBr 2) (maCons (mBr 3) (maCons (mVar 4) maNil))))))) (mDrop (mCall r__law_moved_value [.fz, .br 1, .br 2, .br 3, .fz] [] (maCons (mVar 0) (maCons (mBr 1) (maCons (mBr 2) (maCons (mBr 3) (maCons (mVar 4) maNil))))))))))))))
def m__law_tried_value (r__law_value r__law_tried_value r__law_moved_value : En → Option (D × En)) : MS := (mSeq (mSet 5 (mCall f__law_mark [.br 3] [] (maCons (mBr 3) maNil)))
  (mSeq (mSet 6 (mCall f__law_mark [.br 3] [] (maCons (mBr 3) maNil)))
  (mSeq (mDrop (mCall f__law_put [.br 2, .fz, .fz] [] (maCons (mBr 2) (maCons (mC (.str "try")) (maCons (mVar 5) maNil)))))
  (mSeq (mDrop (mCall r__law_value [.fz, .br 1, .br 2, .br 3, .fz] [] (maCons (mVar 0) (maCons (mBr 1) (maCons (mBr 2) (maCons (mBr 3) (maCons (m2 (.fz) (.fz) (mVar 4) (mC (.int 1)) dSub) maNil)))))))
  (mSeq (mDrop (mCall f__law_put [.br 2, .fz] [.none] (maCons (mBr 2) (maCons (mC (.str "endtry")) maNil))))
  (mSeq (mDrop (mCall f__law_put [.br 2, .fz, .fz] [] (maCons (mBr 2) (maCons (mC (.str "jump")) (maCons (mVar 6) maNil)))))
  (mSeq (mDrop (mCall f__law_put [.br 2, .fz, .fz] [] (maCons (mBr 2) (maCons (mC (.str "label")) (maCons (mVar 5) maNil)))))
  (mDrop (mCall f__law_put [.br 2, .fz, .fz] [] (maCons (mBr 2) (maCons (mC (.str "label")) (maCons (mVar 6) maNil))))))))))))
def m__law_moved_value (r__law_value r__law_tried_value r__law_moved_value : En → Option (D × En)) : MS := (mSeq (mSet 5 (m2 (.fz) (.fz) (mC (.int 2)) (mCall f__law_draw [.fz, .br 1, .fz] [] (maCons (mVar 0) (maCons (mBr 1) (maCons (mC (.int 3)) maNil)))) dAddU))
  (mSeq (mFor (mRng1 (maCons (mVar 5) maNil)) (mgN 6) (mDrop (mCall r__law_value [.fz, .br 1, .br 2, .br 3, .fz] [] (maCons (mVar 0) (maCons (mBr 1) (maCons (mBr 2) (maCons (mBr 3) (maCons (mC (.int 0)) maNil))))))))
  (mSeq (mFor (mRng1 (maCons (mCall f__law_draw [.fz, .br 1, .fz] [] (maCons (mVar 0) (maCons (mBr 1) (maCons (mC (.int 4)) maNil)))) maNil)) (mgN 6) (mDrop (mCall f__law_put [.br 2, .fz, .fz] [] (maCons (mBr 2) (maCons (mC (.str "swap")) (maCons (m2 (.fz) (.fz) (mC (.int 2)) (mCall f__law_draw [.fz, .br 1, .fz] [] (maCons (mVar 0) (maCons (mBr 1) (maCons (m2 (.fz) (.fz) (mVar 5) (mC (.int 1)) dSub) maNil)))) dAddU) maNil))))))
  (mSeq (mIte (mTr (m2 (.fz) (.fz) (mCall f__law_draw [.fz, .br 1, .fz] [] (maCons (mVar 0) (maCons (mBr 1) (maCons (mC (.int 2)) maNil)))) (mC (.int 0)) dEqU)) (mSeq (mDrop (mCall f__law_put [.br 2, .fz, .fz] [] (maCons (mBr 2) (maCons (mC (.str "copy")) (maCons (m2 (.fz) (.fz) (mC (.int 1)) (mCall f__law_draw [.fz, .br 1, .fz] [] (maCons (mVar 0) (maCons (mBr 1) (maCons (mVar 5) maNil)))) dAddU) maNil)))))
  (mDrop (mCall f__law_put [.br 2, .fz] [.none] (maCons (mBr 2) (maCons (mC (.str "drop")) maNil))))) mSkip)
  (mFor (mRng1 (maCons (m2 (.fz) (.fz) (mVar 5) (mC (.int 1)) dSub) maNil)) (mgN 6) (mDrop (mCall f__law_put [.br 2, .fz] [.none] (maCons (mBr 2) (maCons (mCall f__law_pick [.fz, .br 1, .fz] [] (maCons (mVar 0) (maCons (mBr 1) (maCons (mLst (maCons (mC (.str "drop")) (maCons (mC (.str "tell")) (maCons (mC (.str "same")) maNil)))) maNil)))) maNil)))))))))
def fG__law_value : Nat → (En → Option (D × En)) × (En → Option (D × En)) × (En → Option (D × En))
  | 0 => (fun _ => none, fun _ => none, fun _ => none)
  | n + 1 =>
    let p := fG__law_value n
    (mFun [.fz, .io, .io, .io, .fz] 2 .fz (m__law_value p.1 p.2.1 p.2.2),
    mFun [.fz, .io, .io, .io, .fz] 2 .fz (m__law_tried_value p.1 p.2.1 p.2.2),
    mFun [.fz, .io, .io, .io, .fz] 2 .fz (m__law_moved_value p.1 p.2.1 p.2.2))
def fR__law_value (n : Nat) : En → Option (D × En) := (fG__law_value n).1
def f__law_value : En → Option (D × En) := fR__law_value 8
def fR__law_tried_value (n : Nat) : En → Option (D × En) := (fG__law_value n).2.1
def f__law_tried_value : En → Option (D × En) := fR__law_tried_value 8
def fR__law_moved_value (n : Nat) : En → Option (D × En) := (fG__law_value n).2.2
def f__law_moved_value : En → Option (D × En) := fR__law_moved_value 8
def m__law_deed (r__law_deed r__law_choice r__law_round r__law_tried : En → Option (D × En)) : MS := (mSeq (mSet 5 (mIf (mTr (m2 (.fz) (.fz) (mVar 4) (mC (.int 0)) dGt)) (mCall f__law_draw [.fz, .br 1, .fz] [] (maCons (mVar 0) (maCons (mBr 1) (maCons (mC (.int 10)) maNil)))) (mCall f__law_draw [.fz, .br 1, .fz] [] (maCons (mVar 0) (maCons (mBr 1) (maCons (mC (.int 4)) maNil))))))
  (mIte (mTr (m2 (.fz) (.fz) (mVar 5) (mC (.int 2)) dLt)) (mSeq (mDrop (mCall f__law_value [.fz, .br 1, .br 2, .br 3, .fz] [] (maCons (mVar 0) (maCons (mBr 1) (maCons (mBr 2) (maCons (mBr 3) (maCons (mC (.int 1)) maNil)))))))
  (mDrop (mCall f__law_put [.br 2, .fz, .fz] [] (maCons (mBr 2) (maCons (mC (.str "store")) (maCons (mCall f__law_pick [.fz, .br 1, .fz] [] (maCons (mVar 0) (maCons (mBr 1) (maCons (mLst (maCons (mC (.str "a")) (maCons (mC (.str "b")) (maCons (mC (.str "c")) maNil)))) maNil)))) maNil)))))) (mIte (mTr (m2 (.fz) (.fz) (mVar 5) (mC (.int 2)) dEqU)) (mSeq (mDrop (mCall f__law_value [.fz, .br 1, .br 2, .br 3, .fz] [] (maCons (mVar 0) (maCons (mBr 1) (maCons (mBr 2) (maCons (mBr 3) (maCons (mC (.int 2)) maNil)))))))
  (mDrop (mCall f__law_put [.br 2, .fz] [.none] (maCons (mBr 2) (maCons (mC (.str "tell")) maNil))))) (mIte (mTr (m2 (.fz) (.fz) (mVar 5) (mC (.int 3)) dEqU)) (mDrop (mCall f__law_put [.br 2, .fz, .fz] [] (maCons (mBr 2) (maCons (mC (.str "clear")) (maCons (mCall f__law_pick [.fz, .br 1, .fz] [] (maCons (mVar 0) (maCons (mBr 1) (maCons (mLst (maCons (mC (.str "b")) (maCons (mC (.str "c")) maNil))) maNil)))) maNil))))) (mIte (mTr (m2 (.fz) (.fz) (mVar 5) (mC (.int 6)) dLt)) (mDrop (mCall r__law_choice [.fz, .br 1, .br 2, .br 3, .fz] [] (maCons (mVar 0) (maCons (mBr 1) (maCons (mBr 2) (maCons (mBr 3) (maCons (mVar 4) maNil))))))) (mIte (mTr (m2 (.fz) (.fz) (mVar 5) (mC (.int 8)) dLt)) (mDrop (mCall r__law_round [.fz, .br 1, .br 2, .br 3, .fz] [] (maCons (mVar 0) (maCons (mBr 1) (maCons (mBr 2) (maCons (mBr 3) (maCons (mVar 4) maNil))))))) (mIte (mTr (m2 (.fz) (.fz) (mVar 5) (mC (.int 8)) dEqU)) (mDrop (mCall r__law_tried [.fz, .br 1, .br 2, .br 3, .fz] [] (maCons (mVar 0) (maCons (mBr 1) (maCons (mBr 2) (maCons (mBr 3) (maCons (mVar 4) maNil))))))) (mSeq (mDrop (mCall f__law_value [.fz, .br 1, .br 2, .br 3, .fz] [] (maCons (mVar 0) (maCons (mBr 1) (maCons (mBr 2) (maCons (mBr 3) (maCons (mC (.int 0)) maNil)))))))
  (mDrop (mCall f__law_put [.br 2, .fz] [.none] (maCons (mBr 2) (maCons (mC (.str "raise")) maNil))))))))))))
def m__law_choice (r__law_deed r__law_choice r__law_round r__law_tried : En → Option (D × En)) : MS := (mSeq (mPar 5 6 (maCons (mCall f__law_mark [.br 3] [] (maCons (mBr 3) maNil)) (maCons (mCall f__law_mark [.br 3] [] (maCons (mBr 3) maNil)) maNil)))
  (mSeq (mDrop (mCall f__law_value [.fz, .br 1, .br 2, .br 3, .fz] [] (maCons (mVar 0) (maCons (mBr 1) (maCons (mBr 2) (maCons (mBr 3) (maCons (mC (.int 1)) maNil)))))))
  (mSeq (mDrop (mCall f__law_put [.br 2, .fz, .fz] [] (maCons (mBr 2) (maCons (mCall f__law_pick [.fz, .br 1, .fz] [] (maCons (mVar 0) (maCons (mBr 1) (maCons (mLst (maCons (mC (.str "iffalse")) (maCons (mC (.str "iftrue")) maNil))) maNil)))) (maCons (mVar 5) maNil)))))
  (mSeq (mDrop (mCall r__law_deed [.fz, .br 1, .br 2, .br 3, .fz] [] (maCons (mVar 0) (maCons (mBr 1) (maCons (mBr 2) (maCons (mBr 3) (maCons (m2 (.fz) (.fz) (mVar 4) (mC (.int 1)) dSub) maNil)))))))
  (mSeq (mDrop (mCall f__law_put [.br 2, .fz, .fz] [] (maCons (mBr 2) (maCons (mC (.str "jump")) (maCons (mVar 6) maNil)))))
  (mSeq (mDrop (mCall f__law_put [.br 2, .fz, .fz] [] (maCons (mBr 2) (maCons (mC (.str "label")) (maCons (mVar 5) maNil)))))
  (mSeq (mIte (mTr (m2 (.fz) (.fz) (mCall f__law_draw [.fz, .br 1, .fz] [] (maCons (mVar 0) (maCons (mBr 1) (maCons (mC (.int 2)) maNil)))) (mC (.int 0)) dEqU)) (mDrop (mCall r__law_deed [.fz, .br 1, .br 2, .br 3, .fz] [] (maCons (mVar 0) (maCons (mBr 1) (maCons (mBr 2) (maCons (mBr 3) (maCons (m2 (.fz) (.fz) (mVar 4) (mC (.int 1)) dSub) maNil))))))) mSkip)
  (mDrop (mCall f__law_put [.br 2, .fz, .fz] [] (maCons (mBr 2) (maCons (mC (.str "label")) (maCons (mVar 6) maNil))))))))))))
def m__law_round (r__law_deed r__law_choice r__law_round r__law_tried : En → Option (D × En)) : MS := (mSeq (mPar 5 6 (maCons (mCall f__law_mark [.br 3] [] (maCons (mBr 3) maNil)) (maCons (mCall f__law_mark [.br 3] [] (maCons (mBr 3) maNil)) maNil)))
  (mSeq (mDrop (mCall f__law_put [.br 2, .fz, .fz] [] (maCons (mBr 2) (maCons (mC (.str "label")) (maCons (mVar 5) maNil)))))
  (mSeq (mDrop (mCall f__law_value [.fz, .br 1, .br 2, .br 3, .fz] [] (maCons (mVar 0) (maCons (mBr 1) (maCons (mBr 2) (maCons (mBr 3) (maCons (mC (.int 1)) maNil)))))))
  (mSeq (mDrop (mCall f__law_put [.br 2, .fz, .fz] [] (maCons (mBr 2) (maCons (mC (.str "iffalse")) (maCons (mVar 6) maNil)))))
  (mSeq (mDrop (mCall r__law_deed [.fz, .br 1, .br 2, .br 3, .fz] [] (maCons (mVar 0) (maCons (mBr 1) (maCons (mBr 2) (maCons (mBr 3) (maCons (m2 (.fz) (.fz) (mVar 4) (mC (.int 1)) dSub) maNil)))))))
  (mSeq (mDrop (mCall f__law_put [.br 2, .fz, .fz] [] (maCons (mBr 2) (maCons (mC (.str "jump")) (maCons (mVar 5) maNil)))))
  (mDrop (mCall f__law_put [.br 2, .fz, .fz] [] (maCons (mBr 2) (maCons (mC (.str "label")) (maCons (mVar 6) maNil)))))))))))
def m__law_tried (r__law_deed r__law_choice r__law_round r__law_tried : En → Option (D × En)) : MS := (mSeq (mPar 5 6 (maCons (mCall f__law_mark [.br 3] [] (maCons (mBr 3) maNil)) (maCons (mCall f__law_mark [.br 3] [] (maCons (mBr 3) maNil)) maNil)))
  (mSeq (mDrop (mCall f__law_put [.br 2, .fz, .fz] [] (maCons (mBr 2) (maCons (mC (.str "try")) (maCons (mVar 5) maNil)))))
  (mSeq (mDrop (mCall r__law_deed [.fz, .br 1, .br 2, .br 3, .fz] [] (maCons (mVar 0) (maCons (mBr 1) (maCons (mBr 2) (maCons (mBr 3) (maCons (m2 (.fz) (.fz) (mVar 4) (mC (.int 1)) dSub) maNil)))))))
  (mSeq (mDrop (mCall r__law_deed [.fz, .br 1, .br 2, .br 3, .fz] [] (maCons (mVar 0) (maCons (mBr 1) (maCons (mBr 2) (maCons (mBr 3) (maCons (mC (.int 0)) maNil)))))))
  (mSeq (mDrop (mCall f__law_put [.br 2, .fz] [.none] (maCons (mBr 2) (maCons (mC (.str "endtry")) maNil))))
  (mSeq (mDrop (mCall f__law_put [.br 2, .fz, .fz] [] (maCons (mBr 2) (maCons (mC (.str "jump")) (maCons (mVar 6) maNil)))))
  (mSeq (mDrop (mCall f__law_put [.br 2, .fz, .fz] [] (maCons (mBr 2) (maCons (mC (.str "label")) (maCons (mVar 5) maNil)))))
  (mSeq (mDrop (mCall f__law_put [.br 2, .fz] [.none] (maCons (mBr 2) (maCons (mCall f__law_pick [.fz, .br 1, .fz] [] (maCons (mVar 0) (maCons (mBr 1) (maCons (mLst (maCons (mC (.str "drop")) (maCons (mC (.str "tell")) (maCons (mC (.str "raise")) maNil)))) maNil)))) maNil))))
  (mSeq (mDrop (mCall r__law_deed [.fz, .br 1, .br 2, .br 3, .fz] [] (maCons (mVar 0) (maCons (mBr 1) (maCons (mBr 2) (maCons (mBr 3) (maCons (mC (.int 0)) maNil)))))))
  (mDrop (mCall f__law_put [.br 2, .fz, .fz] [] (maCons (mBr 2) (maCons (mC (.str "label")) (maCons (mVar 6) maNil))))))))))))))
def fG__law_deed : Nat → (En → Option (D × En)) × (En → Option (D × En)) × (En → Option (D × En)) × (En → Option (D × En))
  | 0 => (fun _ => none, fun _ => none, fun _ => none, fun _ => none)
  | n + 1 =>
    let p := fG__law_deed n
    (mFun [.fz, .io, .io, .io, .fz] 1 .fz (m__law_deed p.1 p.2.1 p.2.2.1 p.2.2.2),
    mFun [.fz, .io, .io, .io, .fz] 2 .fz (m__law_choice p.1 p.2.1 p.2.2.1 p.2.2.2),
    mFun [.fz, .io, .io, .io, .fz] 2 .fz (m__law_round p.1 p.2.1 p.2.2.1 p.2.2.2),
    mFun [.fz, .io, .io, .io, .fz] 2 .fz (m__law_tried p.1 p.2.1 p.2.2.1 p.2.2.2))
def fR__law_deed (n : Nat) : En → Option (D × En) := (fG__law_deed n).1
def f__law_deed : En → Option (D × En) := fR__law_deed 8
def fR__law_choice (n : Nat) : En → Option (D × En) := (fG__law_deed n).2.1
def f__law_choice : En → Option (D × En) := fR__law_choice 8
def fR__law_round (n : Nat) : En → Option (D × En) := (fG__law_deed n).2.2.1
def f__law_round : En → Option (D × En) := fR__law_round 8
def fR__law_tried (n : Nat) : En → Option (D × En) := (fG__law_deed n).2.2.2
def f__law_tried : En → Option (D × En) := fR__law_tried 8
def m__law_code : MS := (mSeq (mSet 3 (mLst maNil))
  (mSeq (mSet 4 (mLst maNil))
  (mSeq (mFor (mRng1 (maCons (m2 (.fz) (.fz) (mC (.int 1)) (mCall f__law_draw [.fz, .br 1, .fz] [] (maCons (mVar 0) (maCons (mBr 1) (maCons (mVar 2) maNil)))) dAddU) maNil)) (mgN 5) (mIte (mTr (m2 (.fz) (.fz) (mOp [.br 3] (maCons (mBr 3) maNil) dLenU) (mC (.int 70)) dLt)) (mDrop (mCall f__law_deed [.fz, .br 1, .br 3, .br 4, .fz] [] (maCons (mVar 0) (maCons (mBr 1) (maCons (mBr 3) (maCons (mBr 4) (maCons (mC (.int 2)) maNil))))))) mSkip))
  (mSeq (mDrop (mCall f__law_value [.fz, .br 1, .br 3, .br 4, .fz] [] (maCons (mVar 0) (maCons (mBr 1) (maCons (mBr 3) (maCons (mBr 4) (maCons (mC (.int 1)) maNil)))))))
  (mSeq (mDrop (mCall f__law_put [.br 3, .fz] [.none] (maCons (mBr 3) (maCons (mC (.str "return")) maNil))))
  (mSeq (mIte (mOr (mTr (m2 (.fz) (.fz) (mOp [.br 3] (maCons (mBr 3) maNil) dLenU) (mC (.int 140)) dGt)) (mTr (m2 (.fz) (.fz) (mOp [.br 4] (maCons (mBr 4) maNil) dLenU) (mC (.int 90)) dGt))) (mRet (mLst (maCons (mTup (maCons (mC (.str "load")) (maCons (mC (.str "a")) (maCons (mC (.int 7)) maNil)))) (maCons (mTup (maCons (mC (.str "return")) (maCons (mC .none) (maCons (mC (.int 8)) maNil)))) maNil)))) mSkip)
  (mRet (mMv 3))))))))
def f__law_code : En → Option (D × En) := mFun [.fz, .io, .fz] 3 .ow m__law_code
def m_arg_text : MS := (mSeq (mAsg (mgT 3 (mgCons (mgN 1) (mgCons (mgN 2) (mgCons (mgN 3) mgNil)))) (mVar 0))
  (mSeq (mIte (mTr (m2 (.fz) (.fz) (mVar 1) (mC (.str "push")) dNeU)) (mRet (mIf (mTr (m2 (.fz) (.fz) (mVar 2) (mC .none) dIsN)) (mC (.str "")) (mJs [(mC (.str " ")), (m1 (.fz) (mVar 2) dShow)] Str.empty))) mSkip)
  (mSeq (mIte (mTr (m1 (.fz) (mVar 2) (dIs "str"))) (mRet (mJs [(mC (.str " '")), (m1 (.fz) (mVar 2) dShow), (mC (.str "'"))] Str.empty)) mSkip)
  (mSeq (mIte (mTr (m2 (.fz) (.fz) (mVar 2) (mC .none) dIsN)) (mRet (mC (.str " none"))) mSkip)
  (mRet (m2 (.fz) (.fz) (mC (.str " ")) (m1 .fz (mOp [.fz] (maCons (mVar 2) maNil) dStr) dLower) dAddU))))))
def f_arg_text : En → Option (D × En) := mFun [.fz] 3 .fz m_arg_text
def m_code_text : MS := (mSeq (mDrop (mCall f_look_code [.fz] [] (maCons (mVar 0) maNil)))
  (mRet (mJoin (mC (.str "")) (.ow) (mLc (mItU (mVar 0)) (mgN 1) mYes (mJs [(m1 (.fz) (m2 (.fz) (.fz) (mVar 1) (mC (.int 2)) dIxU) dShow), (mC (.str " ")), (m1 (.fz) (m2 (.fz) (.fz) (mVar 1) (mC (.int 0)) dIxU) dShow), (m1 (.fz) (mCall f_arg_text [.fz] [] (maCons (mVar 1) maNil)) dShow), (mC (.str "\n"))] Str.empty) [1]))))
def f_code_text : En → Option (D × En) := mFun [.fz] 1 .fz m_code_text
def m_number_in : MS := (mSeq (mSet 2 (mIf (mTr (m2 (.fz) (.fz) (mSl (.fz) (mVar 0) mNo (mPt (mC (.int 1))) dSlU) (mC (.str "-")) dEqU)) (mSl (.fz) (mVar 0) (mPt (mC (.int 1))) mNo dSlU) (mVar 0)))
  (mSeq (mIte (mOr (mTr (m2 (.fz) (.fz) (mVar 2) (mC (.str "")) dEqU)) (mOr (mTr (m2 (.fz) (.fz) (mOp [.fz] (maCons (mVar 2) maNil) dLenU) (mC (.int 10)) dGt)) (mNot (mTr (mOp [.ow] (maCons (mLc (mItU (mVar 2)) (mgN 3) mYes (m2 (.fz) (.fz) (mVar 3) (mC (.str "0123456789")) dInU) [3]) maNil) dAll))))) mNever mSkip)
  (mSeq (mIte (mAnd (mTr (m2 (.fz) (.fz) (m2 (.fz) (.fz) (mVar 2) (mC (.int 0)) dIxU) (mC (.str "0")) dEqU)) (mTr (m2 (.fz) (.fz) (mVar 0) (mC (.str "0")) dNeU))) mNever mSkip)
  (mRet (mOp [.fz] (maCons (mVar 0) maNil) dIntU)))))
def f_number_in : En → Option (D × En) := mFun [.fz, .fz] 2 .fz m_number_in
def m_arg_in : MS := (mSeq (mIte (mTr (m2 (.fz) (.fz) (mVar 0) (mC (.tuple [(.str "load"), (.str "quick"), (.str "store"), (.str "clear")])) dInU)) (mRet (mVar 1)) mSkip)
  (mSeq (mIte (mAnd (mTr (m2 (.fz) (.fz) (mVar 0) (mC (.str "push")) dEqU)) (mTr (m1 (.fz) (mVar 1) (dKin false [("none", .none), ("true", (.bool true)), ("false", (.bool false))])))) (mRet (m1 (.fz) (mVar 1) (dKget [("none", .none), ("true", (.bool true)), ("false", (.bool false))]))) mSkip)
  (mSeq (mIte (mAnd (mTr (m2 (.fz) (.fz) (mVar 0) (mC (.str "push")) dEqU)) (mAnd (mTr (m2 (.fz) (.fz) (mOp [.fz] (maCons (mVar 1) maNil) dLenU) (mC (.int 2)) dGt)) (mAnd (mTr (m2 (.fz) (.fz) (m2 (.fz) (.fz) (mVar 1) (mC (.int 0)) dIxU) (mC (.str "'")) dEqU)) (mAnd (mTr (m2 (.fz) (.fz) (m2 (.fz) (.fz) (mVar 1) (m1 (.fz) (mC (.int 1)) dNeg) dIxU) (mC (.str "'")) dEqU)) (mTr (mCall f_is_kind [.fz] [] (maCons (mSl (.fz) (mVar 1) (mPt (mC (.int 1))) (mPt (m1 (.fz) (mC (.int 1)) dNeg)) dSlU) maNil))))))) (mRet (mSl (.fz) (mVar 1) (mPt (mC (.int 1))) (mPt (m1 (.fz) (mC (.int 1)) dNeg)) dSlU)) mSkip)
  (mRet (mCall f_number_in [.fz, .fz] [] (maCons (mVar 1) (maCons (mVar 2) maNil)))))))
def f_arg_in : En → Option (D × En) := mFun [.fz, .fz, .fz] 0 .fz m_arg_in
def m_row_in : MS := (mSeq (mAsg (mgStar 2 1 (mgCons (mgN 2) (mgCons (mgN 3) mgNil))) (mSplit (mVar 0) (mC (.str " "))))
  (mSeq (mSet 4 (mC .none))
  (mSeq (mIte (mAnd (mTr (m2 (.fz) (.fz) (mOp [.fz] (maCons (mVar 3) maNil) dLenU) (mC (.int 1)) dEqU)) (mTr (m2 (.fz) (.fz) (m2 (.fz) (.fz) (mVar 3) (mC (.int 0)) dIxU) (mC (.tuple [(.str "add"), (.str "sub"), (.str "mul"), (.str "div"), (.str "rest"), (.str "less"), (.str "same"), (.str "drop"), (.str "neg"), (.str "not"), (.str "tell"), (.str "return"), (.str "raise"), (.str "endtry")])) dInU))) (mSet 4 (mTup (maCons (m2 (.fz) (.fz) (mVar 3) (mC (.int 0)) dIxU) (maCons (mC .none) (maCons (mCall f_number_in [.fz, .fz] [] (maCons (mVar 2) (maCons (mVar 1) maNil))) maNil))))) mSkip)
  (mSeq (mIte (mAnd (mTr (m2 (.fz) (.fz) (mOp [.fz] (maCons (mVar 3) maNil) dLenU) (mC (.int 2)) dEqU)) (mTr (m2 (.fz) (.fz) (m2 (.fz) (.fz) (mVar 3) (mC (.int 0)) dIxU) (mC (.tuple [(.str "add"), (.str "sub"), (.str "mul"), (.str "div"), (.str "rest"), (.str "less"), (.str "same"), (.str "drop"), (.str "neg"), (.str "not"), (.str "tell"), (.str "return"), (.str "raise"), (.str "endtry")])) dNinU))) (mSet 4 (mTup (maCons (m2 (.fz) (.fz) (mVar 3) (mC (.int 0)) dIxU) (maCons (mCall f_arg_in [.fz, .fz, .fz] [] (maCons (m2 (.fz) (.fz) (mVar 3) (mC (.int 0)) dIxU) (maCons (m2 (.fz) (.fz) (mVar 3) (mC (.int 1)) dIxU) (maCons (mVar 1) maNil)))) (maCons (mCall f_number_in [.fz, .fz] [] (maCons (mVar 2) (maCons (mVar 1) maNil))) maNil))))) mSkip)
  (mSeq (mIte (mNot (mTr (mCall f_is_row [.fz] [] (maCons (mVar 4) maNil)))) mNever mSkip)
  (mRet (mVar 4)))))))
def f_row_in : En → Option (D × En) := mFun [.fz, .fz] 3 .fz m_row_in
def m_read_code : MS := (mSeq (mIte (mOr (mNot (mTr (m1 (.fz) (mVar 0) (dIs "str")))) (mTr (m2 (.fz) (.fz) (mSl (.fz) (mVar 0) (mPt (m1 (.fz) (mC (.int 1)) dNeg)) mNo dSlU) (mC (.str "\n")) dNeU))) mNever mSkip)
  (mSeq (mSet 1 (mSplit (mSl (.fz) (mVar 0) mNo (mPt (m1 (.fz) (mC (.int 1)) dNeg)) dSlU) (mC (.str "\n"))))
  (mSeq (mIte (mTr (m2 (.fz) (.fz) (mOp [.fz] (maCons (mVar 1) maNil) dLenU) (mC (.int 150)) dGt)) mNever mSkip)
  (mSeq (mSet 2 (mLc (mIt2 [.fz] (maCons (mVar 1) maNil) dEnum) (mgT 2 (mgCons (mgN 4) (mgCons (mgN 5) mgNil))) mYes (mCall f_row_in [.fz, .fz] [] (maCons (mVar 5) (maCons (mVar 4) maNil))) [4, 5]))
  (mSeq (mDrop (mCall f_look_code [.fz] [] (maCons (mVar 2) maNil)))
  (mRet (mVar 2)))))))
def f_read_code : En → Option (D × En) := mFun [.fz] 5 .fz m_read_code
structure Ct (K : PySem.W.Frag) (w : World) (mg : Str → Option Value) : Prop where
  BARE : GC K mg "BARE" (.tuple [(.str "add"), (.str "sub"), (.str "mul"), (.str "div"), (.str "rest"), (.str "less"), (.str "same"), (.str "drop"), (.str "neg"), (.str "not"), (.str "tell"), (.str "return"), (.str "raise"), (.str "endtry")])
  CAPITALS : GC K mg "CAPITALS" (.str "ABCDEFGHIJKLMNOPQRSTUVWXYZ")
  COUNTED : GD K w mg "COUNTED" [("copy", (.int 1)), ("swap", (.int 2))]
  FIGURES : GC K mg "FIGURES" (.str "0123456789")
  GREAT : GC K mg "GREAT" (.int 1000000000)
  JUMPS : GC K mg "JUMPS" (.tuple [(.str "jump"), (.str "iftrue"), (.str "iffalse"), (.str "ortrue"), (.str "orfalse"), (.str "try")])
  LETTERS : GC K mg "LETTERS" (.str "abcdefghijklmnopqrstuvwxyz")
  MOST_ROWS : GC K mg "MOST_ROWS" (.int 150)
  NAMED : GC K mg "NAMED" (.tuple [(.str "load"), (.str "quick"), (.str "store"), (.str "clear")])
  VALUES : GC K mg "VALUES" (.tuple [(.str "push")])
  WORDS : GD K w mg "WORDS" [("none", .none), ("true", (.bool true)), ("false", (.bool false))]
abbrev N_is_number : List Str := ["thing", "least", "most"]
theorem sc_is_number : FnScope N_is_number ["thing", "least", "most"] (defScope s_is_number) := ⟨rfl, rfl, rfl, by decide +kernel, rfl, by decide +kernel, by decide +kernel⟩
theorem ok_is_number {P : Program} {w : World} {K : PySem.W.Frag} {mg : Str → Option Value} {base : Heap} {f : Addr} {fd : FuncData} (F : FunD K "is_number" "is_number" (defArgs s_is_number) (defBody s_is_number) (defScope s_is_number) [] [] f fd) (B : Bt mg) (C : Ct K w mg) :
    FnG P w K mg base CX0 1 f fd ["thing", "least", "most"] (spF K [.fz, .fz, .fz] f_is_number .fz) :=
  fn_data (Oi := [.fz, .fz, .fz]) (Ol := []) (r := .fz) F sc_is_number rfl rfl rfl (fun _ z => by cases z) fun cd A outer s H E hgd hr =>
    have hu := hu65 hr
    (s_one (s_ret (e_and (e_isi B.isinstance B.int (by decide +kernel) (e_var 0)) (e_and (e_not (e_isi B.isinstance B.bool (by decide +kernel) (e_var 0))) (e_one (e_chain op_le op_le (e_var 1) (e_var 0) (e_var 2)))))))
abbrev N_is_name : List Str := ["thing", "sign"]
theorem sc_is_name : FnScope N_is_name ["thing"] (defScope s_is_name) := ⟨rfl, rfl, rfl, by decide +kernel, rfl, by decide +kernel, by decide +kernel⟩
abbrev O_is_name : List Kd := [.fz, .fz]
theorem ok_is_name {P : Program} {w : World} {K : PySem.W.Frag} {mg : Str → Option Value} {base : Heap} {f : Addr} {fd : FuncData} (F : FunD K "is_name" "is_name" (defArgs s_is_name) (defBody s_is_name) (defScope s_is_name) [] [] f fd) (B : Bt mg) (C : Ct K w mg) :
    FnG P w K mg base CX0 1 f fd ["thing"] (spF K [.fz] f_is_name .fz) :=
  fn_data (Oi := [.fz]) (Ol := [.fz]) (r := .fz) F sc_is_name rfl rfl rfl (fun _ z => by cases z) fun cd A outer s H E hgd hr =>
    have hu := hu65 hr
    (s_one (s_ret (e_and (e_isi B.isinstance B.str (by decide +kernel) (e_var 0)) (e_and (e_chain op_le op_le e_int (e_lenU B (a_cons (e_var 0) a_nil)) e_int) (e_one (e_all B rfl (a_cons (e_lc (own := [("sign", 1)]) (L := O_is_name) rfl sc_is_name.nd (i_any (e_var 0)) (blkOk_by (N := N_is_name) (sc := defScope s_is_name) (by decide +kernel)) (fun _ _ _ _ _ => (g_name 1 sc_is_name.nd)) (fun _ _ _ _ _ => ts_nil) (fun _ _ _ _ _ => (e_in hu (e_var 1) (e_gc C.LETTERS)))) a_nil)))))))
abbrev N_is_kind : List Str := ["thing", "sign"]
theorem sc_is_kind : FnScope N_is_kind ["thing"] (defScope s_is_kind) := ⟨rfl, rfl, rfl, by decide +kernel, rfl, by decide +kernel, by decide +kernel⟩
abbrev O_is_kind : List Kd := [.fz, .fz]
theorem ok_is_kind {P : Program} {w : World} {K : PySem.W.Frag} {mg : Str → Option Value} {base : Heap} {f : Addr} {fd : FuncData} (F : FunD K "is_kind" "is_kind" (defArgs s_is_kind) (defBody s_is_kind) (defScope s_is_kind) [] [] f fd) (B : Bt mg) (C : Ct K w mg) :
    FnG P w K mg base CX0 1 f fd ["thing"] (spF K [.fz] f_is_kind .fz) :=
  fn_data (Oi := [.fz]) (Ol := [.fz]) (r := .fz) F sc_is_kind rfl rfl rfl (fun _ z => by cases z) fun cd A outer s H E hgd hr =>
    have hu := hu65 hr
    (s_one (s_ret (e_and (e_isi B.isinstance B.str (by decide +kernel) (e_var 0)) (e_and (e_chain op_le op_le e_int (e_lenU B (a_cons (e_var 0) a_nil)) e_int) (e_one (e_all B rfl (a_cons (e_lc (own := [("sign", 1)]) (L := O_is_kind) rfl sc_is_kind.nd (i_any (e_var 0)) (blkOk_by (N := N_is_kind) (sc := defScope s_is_kind) (by decide +kernel)) (fun _ _ _ _ _ => (g_name 1 sc_is_kind.nd)) (fun _ _ _ _ _ => ts_nil) (fun _ _ _ _ _ => (e_in hu (e_var 1) (e_add (e_gc C.LETTERS) (e_gc C.CAPITALS))))) a_nil)))))))
abbrev N_is_value : List Str := ["thing", "most"]
theorem sc_is_value : FnScope N_is_value ["thing", "most"] (defScope s_is_value) := ⟨rfl, rfl, rfl, by decide +kernel, rfl, by decide +kernel, by decide +kernel⟩
theorem ok_is_value {P : Program} {w : World} {K : PySem.W.Frag} {mg : Str → Option Value} {base : Heap} {f : Addr} {fd : FuncData} (F : FunD K "is_value" "is_value" (defArgs s_is_value) (defBody s_is_value) (defScope s_is_value) [] [] f fd) (B : Bt mg) (C : Ct K w mg) (G_is_kind : FnX P w K mg base "is_kind" 1 ["thing"] (spF K [.fz] f_is_kind .fz)) (G_is_number : FnX P w K mg base "is_number" 1 ["thing", "least", "most"] (spF K [.fz, .fz, .fz] f_is_number .fz)) :
    FnG P w K mg base CX0 2 f fd ["thing", "most"] (spF K [.fz, .fz] f_is_value .fz) :=
  fn_data (Oi := [.fz, .fz]) (Ol := []) (r := .fz) F sc_is_value rfl rfl rfl (fun _ z => by cases z) fun cd A outer s H E hgd hr =>
    have hu := hu65 hr
    (s_one (s_ret (e_or (e_cmp op_isN1 s_isN (e_var 0) e_non) (e_or (e_isi B.isinstance B.bool (by decide +kernel) (e_var 0)) (e_or (e_callX G_is_number hgd hr (a_cons (e_var 0) (a_cons (e_un un_neg s_neg (e_var 1)) (a_cons (e_var 1) a_nil)))) (e_one (e_callX G_is_kind hgd hr (a_cons (e_var 0) a_nil))))))))
abbrev N_is_mark : List Str := ["thing"]
theorem sc_is_mark : FnScope N_is_mark ["thing"] (defScope s_is_mark) := ⟨rfl, rfl, rfl, by decide +kernel, rfl, by decide +kernel, by decide +kernel⟩
theorem ok_is_mark {P : Program} {w : World} {K : PySem.W.Frag} {mg : Str → Option Value} {base : Heap} {f : Addr} {fd : FuncData} (F : FunD K "is_mark" "is_mark" (defArgs s_is_mark) (defBody s_is_mark) (defScope s_is_mark) [] [] f fd) (B : Bt mg) (C : Ct K w mg) (G_is_number : FnX P w K mg base "is_number" 1 ["thing", "least", "most"] (spF K [.fz, .fz, .fz] f_is_number .fz)) :
    FnG P w K mg base CX0 2 f fd ["thing"] (spF K [.fz] f_is_mark .fz) :=
  fn_data (Oi := [.fz]) (Ol := []) (r := .fz) F sc_is_mark rfl rfl rfl (fun _ z => by cases z) fun cd A outer s H E hgd hr =>
    have hu := hu65 hr
    (s_one (s_ret (e_callX G_is_number hgd hr (a_cons (e_var 0) (a_cons e_int (a_cons e_int a_nil))))))
abbrev N_is_row : List Str := ["thing", "op", "arg", "line"]
theorem sc_is_row : FnScope N_is_row ["thing"] (defScope s_is_row) := ⟨rfl, rfl, rfl, by decide +kernel, rfl, by decide +kernel, by decide +kernel⟩
theorem ok_is_row {P : Program} {w : World} {K : PySem.W.Frag} {mg : Str → Option Value} {base : Heap} {f : Addr} {fd : FuncData} (F : FunD K "is_row" "is_row" (defArgs s_is_row) (defBody s_is_row) (defScope s_is_row) [] [] f fd) (B : Bt mg) (C : Ct K w mg) (G_is_mark : FnX P w K mg base "is_mark" 2 ["thing"] (spF K [.fz] f_is_mark .fz)) (G_is_name : FnX P w K mg base "is_name" 1 ["thing"] (spF K [.fz] f_is_name .fz)) (G_is_number : FnX P w K mg base "is_number" 1 ["thing", "least", "most"] (spF K [.fz, .fz, .fz] f_is_number .fz)) (G_is_value : FnX P w K mg base "is_value" 2 ["thing", "most"] (spF K [.fz, .fz] f_is_value .fz)) :
    FnG P w K mg base CX0 3 f fd ["thing"] (spF K [.fz] f_is_row .fz) :=
  fn_data (Oi := [.fz]) (Ol := [.fz, .fz, .fz]) (r := .fz) F sc_is_row rfl rfl rfl (fun _ z => by cases z) fun cd A outer s H E hgd hr =>
    have hu := hu65 hr
    (s_cons (s_if (PW.pt (w_or (t_not (t_val (e_isi B.isinstance B.tuple (by decide +kernel) (e_var 0)))) (w_or (t_ne hu (e_lenU B (a_cons (e_var 0) a_nil)) e_int) (w_or1 (t_not (t_val (e_isi B.isinstance B.str (by decide +kernel) (e_ixU hu (e_var 0) e_int)))))))) (s_one (s_ret e_bl)) s_nil)
    (s_cons (s_asg (e_var 0) (g_tup rfl (gs_cons (g_name 1 sc_is_row.nd) (gs_cons (g_name 2 sc_is_row.nd) (gs_cons (g_name 3 sc_is_row.nd) gs_nil)))))
    (s_cons (s_if (t_not (t_val (e_callX G_is_number hgd hr (a_cons (e_var 3) (a_cons e_int (a_cons e_int a_nil)))))) (s_one (s_ret e_bl)) s_nil)
    (s_cons (s_if (t_kin C.COUNTED (e_var 1)) (s_one (s_ret (e_callX G_is_number hgd hr (a_cons (e_var 2) (a_cons (e_kget C.COUNTED (e_var 1)) (a_cons e_int a_nil)))))) s_nil)
    (s_cons (s_if (t_in hu (e_var 1) (e_gc C.NAMED)) (s_one (s_ret (e_callX G_is_name hgd hr (a_cons (e_var 2) a_nil)))) s_nil)
    (s_cons (s_if (PW.pt (w_or (t_eq hu (e_var 1) e_str) (w_or1 (t_in hu (e_var 1) (e_gc C.JUMPS))))) (s_one (s_ret (e_callX G_is_mark hgd hr (a_cons (e_var 2) a_nil)))) s_nil)
    (s_one (s_ret (e_if (t_in hu (e_var 1) (e_gc C.VALUES)) (e_callX G_is_value hgd hr (a_cons (e_var 2) (a_cons (e_gc C.GREAT) a_nil))) (e_and (e_in hu (e_var 1) (e_gc C.BARE)) (e_one (e_cmp op_isN1 s_isN (e_var 2) e_non))))))))))))
abbrev N_bad_place : List Str := ["code", "marks", "seen", "at", "row"]
theorem sc_bad_place : FnScope N_bad_place ["code"] (defScope s_bad_place) := ⟨rfl, rfl, rfl, by decide +kernel, rfl, by decide +kernel, by decide +kernel⟩
abbrev O_bad_place : List Kd := [.fz, .fz, .ow, .fz, .fz]
theorem ok_bad_place {P : Program} {w : World} {K : PySem.W.Frag} {mg : Str → Option Value} {base : Heap} {f : Addr} {fd : FuncData} (F : FunD K "bad_place" "bad_place" (defArgs s_bad_place) (defBody s_bad_place) (defScope s_bad_place) [] [] f fd) (B : Bt mg) (C : Ct K w mg) (G_is_row : FnX P w K mg base "is_row" 3 ["thing"] (spF K [.fz] f_is_row .fz)) :
    FnG P w K mg base CX0 4 f fd ["code"] (spF K [.fz] f_bad_place .fz) :=
  fn_data (Oi := [.fz]) (Ol := [.fz, .ow, .fz, .fz]) (r := .fz) F sc_bad_place rfl rfl rfl (fun _ z => by cases z) fun cd A outer s H E hgd hr =>
    have hu := hu65 hr
    (s_cons (s_lcF 1 (own := [("row", 4)]) (L := O_bad_place) rfl sc_bad_place.nd (i_any (e_var 0)) (blkOk_by (N := N_bad_place) (sc := defScope s_bad_place) (by decide +kernel)) (fun _ _ _ _ _ => (g_name 4 sc_bad_place.nd)) (fun _ _ _ _ _ => (ts_one (PW.pt (w_and (t_val (e_callX G_is_row hgd hr (a_cons (e_var 4) a_nil))) (w_and1 (t_eq hu (e_ixU hu (e_var 4) e_int) e_str)))))) (fun _ _ _ _ _ => (e_ixU hu (e_var 4) e_int)) (sw_true rfl rfl rfl (by decide +kernel)))
    (s_cons (s_setO 2 sc_bad_place.nd (e_lst a_nil))
    (s_cons (s_for (L := O_bad_place) PassesOwn.never rfl (i_enum B.enumerate (a_cons (e_var 0) a_nil)) (g_tup rfl (gs_cons (g_name 3 sc_bad_place.nd) (gs_cons (g_name 4 sc_bad_place.nd) gs_nil))) (s_cons (s_if (PW.pt (w_or (t_not (t_val (e_callX G_is_row hgd hr (a_cons (e_var 4) a_nil)))) (w_or1 (PW.pt (w_and (t_in hu (e_ixU hu (e_var 4) e_int) (e_gc C.JUMPS)) (w_and1 (t_nin hu (e_ixU hu (e_var 4) e_int) (e_var 1)))))))) (s_one (s_ret (e_var 3))) s_nil)
    (s_one (s_if (t_eq hu (e_ixU hu (e_var 4) e_int) e_str) (s_cons (s_if (t_in hu (e_ixU hu (e_var 4) e_int) (e_br 2)) (s_one (s_ret (e_var 3))) s_nil)
    (s_one (s_expr (e_mut 2 PySem.F.plainAttrs_list PySem.F.slot_list_append PySem.F.type_list_append mt_append ms_append (e_br 2) (a_cons (e_ixU hu (e_var 4) e_int) a_nil))))) s_nil))))
    (s_one (s_ret e_non)))))
abbrev N_look_code : List Str := ["code", "at"]
theorem sc_look_code : FnScope N_look_code ["code"] (defScope s_look_code) := ⟨rfl, rfl, rfl, by decide +kernel, rfl, by decide +kernel, by decide +kernel⟩
theorem ok_look_code {P : Program} {w : World} {K : PySem.W.Frag} {mg : Str → Option Value} {base : Heap} {f : Addr} {fd : FuncData} (F : FunD K "look_code" "look_code" (defArgs s_look_code) (defBody s_look_code) (defScope s_look_code) [] [] f fd) (B : Bt mg) (C : Ct K w mg) (G_bad_place : FnX P w K mg base "bad_place" 4 ["code"] (spF K [.fz] f_bad_place .fz)) :
    FnG P w K mg base CX0 5 f fd ["code"] (spF K [.fz] f_look_code .fz) :=
  fn_data (Oi := [.fz]) (Ol := [.fz]) (r := .fz) F sc_look_code rfl rfl rfl (fun _ z => by cases z) fun cd A outer s H E hgd hr =>
    have hu := hu65 hr
    (s_cons (s_if (PW.pt (w_or (t_not (t_val (e_isi B.isinstance B.list (by decide +kernel) (e_var 0)))) (w_or1 (t_not (t_chain op_le op_le e_int (e_lenU B (a_cons (e_var 0) a_nil)) (e_gc C.MOST_ROWS)))))) (s_one s_never) s_nil)
    (s_cons (s_setF 1 sc_look_code.nd (e_callX G_bad_place hgd hr (a_cons (e_var 0) a_nil)))
    (s_one (s_if (t_cmp op_notN1 s_notN (e_var 1) e_non) (s_one s_never) s_nil))))
abbrev N_arg_text : List Str := ["row", "op", "arg", "line"]
theorem sc_arg_text : FnScope N_arg_text ["row"] (defScope s_arg_text) := ⟨rfl, rfl, rfl, by decide +kernel, rfl, by decide +kernel, by decide +kernel⟩
theorem ok_arg_text {P : Program} {w : World} {K : PySem.W.Frag} {mg : Str → Option Value} {base : Heap} {f : Addr} {fd : FuncData} (F : FunD K "arg_text" "arg_text" (defArgs s_arg_text) (defBody s_arg_text) (defScope s_arg_text) [] [] f fd) (B : Bt mg) (C : Ct K w mg) :
    FnG P w K mg base CX0 1 f fd ["row"] (spF K [.fz] f_arg_text .fz) :=
  fn_data (Oi := [.fz]) (Ol := [.fz, .fz, .fz]) (r := .fz) F sc_arg_text rfl rfl rfl (fun _ z => by cases z) fun cd A outer s H E hgd hr =>
    have hu := hu65 hr
    (s_cons (s_asg (e_var 0) (g_tup rfl (gs_cons (g_name 1 sc_arg_text.nd) (gs_cons (g_name 2 sc_arg_text.nd) (gs_cons (g_name 3 sc_arg_text.nd) gs_nil)))))
    (s_cons (s_if (t_ne hu (e_var 1) e_str) (s_one (s_ret (e_if (t_cmp op_isN1 s_isN (e_var 2) e_non) e_str (e_joined (ms := [(mC (.str " ")), (m1 (.fz) (mVar 2) dShow)]) (j_cons e_str (j_cons (e_fmt hgd hu (e_var 2)) j_nil)))))) s_nil)
    (s_cons (s_if (t_val (e_isi B.isinstance B.str (by decide +kernel) (e_var 2))) (s_one (s_ret (e_joined (ms := [(mC (.str " '")), (m1 (.fz) (mVar 2) dShow), (mC (.str "'"))]) (j_cons e_str (j_cons (e_fmt hgd hu (e_var 2)) (j_cons e_str j_nil)))))) s_nil)
    (s_cons (s_if (t_cmp op_isN1 s_isN (e_var 2) e_non) (s_one (s_ret e_str)) s_nil)
    (s_one (s_ret (e_add e_str (e_lower (e_strU B (a_cons (e_var 2) a_nil))))))))))
abbrev N_code_text : List Str := ["code", "row"]
theorem sc_code_text : FnScope N_code_text ["code"] (defScope s_code_text) := ⟨rfl, rfl, rfl, by decide +kernel, rfl, by decide +kernel, by decide +kernel⟩
abbrev O_code_text : List Kd := [.fz, .fz]
theorem ok_code_text {P : Program} {w : World} {K : PySem.W.Frag} {mg : Str → Option Value} {base : Heap} {f : Addr} {fd : FuncData} (F : FunD K "code_text" "code_text" (defArgs s_code_text) (defBody s_code_text) (defScope s_code_text) [] [] f fd) (B : Bt mg) (C : Ct K w mg) (G_arg_text : FnX P w K mg base "arg_text" 1 ["row"] (spF K [.fz] f_arg_text .fz)) (G_look_code : FnX P w K mg base "look_code" 5 ["code"] (spF K [.fz] f_look_code .fz)) :
    FnG P w K mg base CX0 6 f fd ["code"] (spF K [.fz] f_code_text .fz) :=
  fn_data (Oi := [.fz]) (Ol := [.fz]) (r := .fz) F sc_code_text rfl rfl rfl (fun _ z => by cases z) fun cd A outer s H E hgd hr =>
    have hu := hu65 hr
    (s_cons (s_expr (e_callX G_look_code hgd hr (a_cons (e_var 0) a_nil)))
    (s_one (s_ret (e_join e_str (e_lc (own := [("row", 1)]) (L := O_code_text) rfl sc_code_text.nd (i_any (e_var 0)) (blkOk_by (N := N_code_text) (sc := defScope s_code_text) (by decide +kernel)) (fun _ _ _ _ _ => (g_name 1 sc_code_text.nd)) (fun _ _ _ _ _ => ts_nil) (fun _ _ _ _ _ => (e_joined (ms := [(m1 (.fz) (m2 (.fz) (.fz) (mVar 1) (mC (.int 2)) dIxU) dShow), (mC (.str " ")), (m1 (.fz) (m2 (.fz) (.fz) (mVar 1) (mC (.int 0)) dIxU) dShow), (m1 (.fz) (mCall f_arg_text [.fz] [] (maCons (mVar 1) maNil)) dShow), (mC (.str "\n"))]) (j_cons (e_fmt hgd hu (e_ixU hu (e_var 1) e_int)) (j_cons e_str (j_cons (e_fmt hgd hu (e_ixU hu (e_var 1) e_int)) (j_cons (e_fmt hgd hu (e_callX G_arg_text hgd hr (a_cons (e_var 1) a_nil))) (j_cons e_str j_nil))))))))))))
abbrev N_number_in : List Str := ["word", "at", "figures", "sign"]
theorem sc_number_in : FnScope N_number_in ["word", "at"] (defScope s_number_in) := ⟨rfl, rfl, rfl, by decide +kernel, rfl, by decide +kernel, by decide +kernel⟩
abbrev O_number_in : List Kd := [.fz, .fz, .fz, .fz]
theorem ok_number_in {P : Program} {w : World} {K : PySem.W.Frag} {mg : Str → Option Value} {base : Heap} {f : Addr} {fd : FuncData} (F : FunD K "number_in" "number_in" (defArgs s_number_in) (defBody s_number_in) (defScope s_number_in) [] [] f fd) (B : Bt mg) (C : Ct K w mg) :
    FnG P w K mg base CX0 1 f fd ["word", "at"] (spF K [.fz, .fz] f_number_in .fz) :=
  fn_data (Oi := [.fz, .fz]) (Ol := [.fz, .fz]) (r := .fz) F sc_number_in rfl rfl rfl (fun _ z => by cases z) fun cd A outer s H E hgd hr =>
    have hu := hu65 hr
    (s_cons (s_setF 2 sc_number_in.nd (e_if (t_eq hu (e_slU (e_var 0) o_no (o_pt e_int)) e_str) (e_slU (e_var 0) (o_pt e_int) o_no) (e_var 0)))
    (s_cons (s_if (PW.pt (w_or (t_eq hu (e_var 2) e_str) (w_or (t_cmp op_gt s_gt (e_lenU B (a_cons (e_var 2) a_nil)) e_int) (w_or1 (t_not (t_val (e_all B rfl (a_cons (e_lc (own := [("sign", 3)]) (L := O_number_in) rfl sc_number_in.nd (i_any (e_var 2)) (blkOk_by (N := N_number_in) (sc := defScope s_number_in) (by decide +kernel)) (fun _ _ _ _ _ => (g_name 3 sc_number_in.nd)) (fun _ _ _ _ _ => ts_nil) (fun _ _ _ _ _ => (e_in hu (e_var 3) (e_gc C.FIGURES)))) a_nil)))))))) (s_one s_never) s_nil)
    (s_cons (s_if (PW.pt (w_and (t_eq hu (e_ixU hu (e_var 2) e_int) e_str) (w_and1 (t_ne hu (e_var 0) e_str)))) (s_one s_never) s_nil)
    (s_one (s_ret (e_intU B (a_cons (e_var 0) a_nil)))))))
abbrev N_arg_in : List Str := ["op", "word", "at"]
theorem sc_arg_in : FnScope N_arg_in ["op", "word", "at"] (defScope s_arg_in) := ⟨rfl, rfl, rfl, by decide +kernel, rfl, by decide +kernel, by decide +kernel⟩
theorem ok_arg_in {P : Program} {w : World} {K : PySem.W.Frag} {mg : Str → Option Value} {base : Heap} {f : Addr} {fd : FuncData} (F : FunD K "arg_in" "arg_in" (defArgs s_arg_in) (defBody s_arg_in) (defScope s_arg_in) [] [] f fd) (B : Bt mg) (C : Ct K w mg) (G_is_kind : FnX P w K mg base "is_kind" 1 ["thing"] (spF K [.fz] f_is_kind .fz)) (G_number_in : FnX P w K mg base "number_in" 1 ["word", "at"] (spF K [.fz, .fz] f_number_in .fz)) :
    FnG P w K mg base CX0 2 f fd ["op", "word", "at"] (spF K [.fz, .fz, .fz] f_arg_in .fz) :=
  fn_data (Oi := [.fz, .fz, .fz]) (Ol := []) (r := .fz) F sc_arg_in rfl rfl rfl (fun _ z => by cases z) fun cd A outer s H E hgd hr =>
    have hu := hu65 hr
    (s_cons (s_if (t_in hu (e_var 0) (e_gc C.NAMED)) (s_one (s_ret (e_var 1))) s_nil)
    (s_cons (s_if (PW.pt (w_and (t_eq hu (e_var 0) e_str) (w_and1 (t_kin C.WORDS (e_var 1))))) (s_one (s_ret (e_kget C.WORDS (e_var 1)))) s_nil)
    (s_cons (s_if (PW.pt (w_and (t_eq hu (e_var 0) e_str) (w_and (t_cmp op_gt s_gt (e_lenU B (a_cons (e_var 1) a_nil)) e_int) (w_and (t_eq hu (e_ixU hu (e_var 1) e_int) e_str) (w_and (t_eq hu (e_ixU hu (e_var 1) (e_un un_neg s_neg e_int)) e_str) (w_and1 (t_val (e_callX G_is_kind hgd hr (a_cons (e_slU (e_var 1) (o_pt e_int) (o_pt (e_un un_neg s_neg e_int))) a_nil))))))))) (s_one (s_ret (e_slU (e_var 1) (o_pt e_int) (o_pt (e_un un_neg s_neg e_int))))) s_nil)
    (s_one (s_ret (e_callX G_number_in hgd hr (a_cons (e_var 1) (a_cons (e_var 2) a_nil))))))))
abbrev N_row_in : List Str := ["line", "at", "number", "words", "found"]
theorem sc_row_in : FnScope N_row_in ["line", "at"] (defScope s_row_in) := ⟨rfl, rfl, rfl, by decide +kernel, rfl, by decide +kernel, by decide +kernel⟩
theorem ok_row_in {P : Program} {w : World} {K : PySem.W.Frag} {mg : Str → Option Value} {base : Heap} {f : Addr} {fd : FuncData} (F : FunD K "row_in" "row_in" (defArgs s_row_in) (defBody s_row_in) (defScope s_row_in) [] [] f fd) (B : Bt mg) (C : Ct K w mg) (G_arg_in : FnX P w K mg base "arg_in" 2 ["op", "word", "at"] (spF K [.fz, .fz, .fz] f_arg_in .fz)) (G_is_row : FnX P w K mg base "is_row" 3 ["thing"] (spF K [.fz] f_is_row .fz)) (G_number_in : FnX P w K mg base "number_in" 1 ["word", "at"] (spF K [.fz, .fz] f_number_in .fz)) :
    FnG P w K mg base CX0 4 f fd ["line", "at"] (spF K [.fz, .fz] f_row_in .fz) :=
  fn_data (Oi := [.fz, .fz]) (Ol := [.fz, .fz, .fz]) (r := .fz) F sc_row_in rfl rfl rfl (fun _ z => by cases z) fun cd A outer s H E hgd hr =>
    have hu := hu65 hr
    (s_cons (s_asgH (e_frz (e_split (e_var 0) e_str)) (gH_star (n := 2) (i := 1) rfl (gsH_cons (gH_of (g_name 2 sc_row_in.nd)) (gsH_star (gH_of (g_name 3 sc_row_in.nd)) gsH_nil))))
    (s_cons (s_setF 4 sc_row_in.nd e_non)
    (s_cons (s_if (PW.pt (w_and (t_eq hu (e_lenU B (a_cons (e_var 3) a_nil)) e_int) (w_and1 (t_in hu (e_ixU hu (e_var 3) e_int) (e_gc C.BARE))))) (s_one (s_setF 4 sc_row_in.nd (e_tup (a_cons (e_ixU hu (e_var 3) e_int) (a_cons e_non (a_cons (e_callX G_number_in hgd hr (a_cons (e_var 2) (a_cons (e_var 1) a_nil))) a_nil)))))) s_nil)
    (s_cons (s_if (PW.pt (w_and (t_eq hu (e_lenU B (a_cons (e_var 3) a_nil)) e_int) (w_and1 (t_nin hu (e_ixU hu (e_var 3) e_int) (e_gc C.BARE))))) (s_one (s_setF 4 sc_row_in.nd (e_tup (a_cons (e_ixU hu (e_var 3) e_int) (a_cons (e_callX G_arg_in hgd hr (a_cons (e_ixU hu (e_var 3) e_int) (a_cons (e_ixU hu (e_var 3) e_int) (a_cons (e_var 1) a_nil)))) (a_cons (e_callX G_number_in hgd hr (a_cons (e_var 2) (a_cons (e_var 1) a_nil))) a_nil)))))) s_nil)
    (s_cons (s_if (t_not (t_val (e_callX G_is_row hgd hr (a_cons (e_var 4) a_nil)))) (s_one s_never) s_nil)
    (s_one (s_ret (e_var 4))))))))
abbrev N_read_code : List Str := ["text", "lines", "rows", "e", "at", "line"]
theorem sc_read_code : FnScope N_read_code ["text"] (defScope s_read_code) := ⟨rfl, rfl, rfl, by decide +kernel, rfl, by decide +kernel, by decide +kernel⟩
abbrev O_read_code : List Kd := [.fz, .fz, .fz, .fz, .fz, .fz]
theorem ok_read_code {P : Program} {w : World} {K : PySem.W.Frag} {mg : Str → Option Value} {base : Heap} {f : Addr} {fd : FuncData} (F : FunD K "read_code" "read_code" (defArgs s_read_code) (defBody s_read_code) (defScope s_read_code) [] [] f fd) (B : Bt mg) (C : Ct K w mg) (G_look_code : FnX P w K mg base "look_code" 5 ["code"] (spF K [.fz] f_look_code .fz)) (G_row_in : FnX P w K mg base "row_in" 4 ["line", "at"] (spF K [.fz, .fz] f_row_in .fz)) :
    FnG P w K mg base CX0 6 f fd ["text"] (spF K [.fz] f_read_code .fz) :=
  fn_data (Oi := [.fz]) (Ol := [.fz, .fz, .fz, .fz, .fz]) (r := .fz) F sc_read_code rfl rfl rfl (fun _ z => by cases z) fun cd A outer s H E hgd hr =>
    have hu := hu65 hr
    (s_cons (s_if (PW.pt (w_or (t_not (t_val (e_isi B.isinstance B.str (by decide +kernel) (e_var 0)))) (w_or1 (t_ne hu (e_slU (e_var 0) (o_pt (e_un un_neg s_neg e_int)) o_no) e_str)))) (s_one s_never) s_nil)
    (s_cons (s_setF 1 sc_read_code.nd (e_frz (e_split (e_slU (e_var 0) o_no (o_pt (e_un un_neg s_neg e_int))) e_str)))
    (s_cons (s_if (t_cmp op_gt s_gt (e_lenU B (a_cons (e_var 1) a_nil)) (e_gc C.MOST_ROWS)) (s_one s_never) s_nil)
    (s_cons (s_lcF 2 (own := [("at", 4), ("line", 5)]) (L := O_read_code) rfl sc_read_code.nd (i_enum B.enumerate (a_cons (e_var 1) a_nil)) (blkOk_by (N := N_read_code) (sc := defScope s_read_code) (by decide +kernel)) (fun _ _ _ _ _ => (g_tup rfl (gs_cons (g_name 4 sc_read_code.nd) (gs_cons (g_name 5 sc_read_code.nd) gs_nil)))) (fun _ _ _ _ _ => ts_nil) (fun _ _ _ _ _ => (e_callX G_row_in hgd hr (a_cons (e_var 5) (a_cons (e_var 4) a_nil)))) (sw_true rfl rfl rfl (by decide +kernel)))
    (s_cons (s_try (s_one (s_expr (e_callX G_look_code hgd hr (a_cons (e_var 2) a_nil)))))
    (s_one (s_ret (e_var 2))))))))
abbrev N__law_town : List Str := ["_law_script"]
theorem sc__law_town : FnScope N__law_town ["_law_script"] (defScope s__law_town) := ⟨rfl, rfl, rfl, by decide +kernel, rfl, by decide +kernel, by decide +kernel⟩
theorem ok__law_town {P : Program} {w : World} {K : PySem.W.Frag} {mg : Str → Option Value} {base : Heap} {f : Addr} {fd : FuncData} (F : FunD K "_law_town" "_law_town" (defArgs s__law_town) (defBody s__law_town) (defScope s__law_town) [] [] f fd) (B : Bt mg) (C : Ct K w mg) :
    FnG P w K mg base CX0 1 f fd ["_law_script"] (spF K [.fz] f__law_town .ow) :=
  fn_data (Oi := [.fz]) (Ol := []) (r := .ow) F sc__law_town rfl rfl rfl (fun _ z => by cases z) fun cd A outer s H E hgd hr =>
    have hu := hu65 hr
    (s_one (s_ret (e_op op_catS s_cat (e_lst (a_cons e_int a_nil)) (e_list B (a_cons (e_var 0) a_nil)))))
abbrev N__law_draw : List Str := ["_law_script", "_law_town_here", "_law_many", "_law_at", "_law_left", "_law_number"]
theorem sc__law_draw : FnScope N__law_draw ["_law_script", "_law_town_here", "_law_many"] (defScope s__law_draw) := ⟨rfl, rfl, rfl, by decide +kernel, rfl, by decide +kernel, by decide +kernel⟩
theorem ok__law_draw {P : Program} {w : World} {K : PySem.W.Frag} {mg : Str → Option Value} {base : Heap} {f : Addr} {fd : FuncData} (F : FunD K "_law_draw" "_law_draw" (defArgs s__law_draw) (defBody s__law_draw) (defScope s__law_draw) [] [] f fd) (B : Bt mg) (C : Ct K w mg) :
    FnG P w K mg base CX0 1 f fd ["_law_script", "_law_town_here", "_law_many"] (spF K [.fz, .io, .fz] f__law_draw .fz) :=
  fn_data (Oi := [.fz, .io, .fz]) (Ol := [.fz, .fz, .fz]) (r := .fz) F sc__law_draw rfl rfl rfl (fun _ z => by cases z) fun cd A outer s H E hgd hr =>
    have hu := hu65 hr
    (s_cons (s_putU 1 hu rfl (e_br 1) e_int (e_add (e_ixU hu (e_br 1) e_int) e_int))
    (s_cons (s_if (t_eq hu (e_var 0) (e_lst a_nil)) (s_one (s_ret (e_op op_modN s_mod (e_op op_fdivX s_divX (e_op op_mulW s_mul (e_op op_mulW s_mul (e_ixU hu (e_br 1) e_int) (e_ixU hu (e_br 1) e_int)) e_int) e_int) (e_var 2)))) s_nil)
    (s_cons (s_setF 3 sc__law_draw.nd (e_op op_modN s_mod (e_ixU hu (e_br 1) e_int) (e_lenU B (a_cons (e_var 0) a_nil))))
    (s_cons (s_setF 4 sc__law_draw.nd (e_ixU hu (e_br 1) (e_add e_int (e_var 3))))
    (s_cons (s_if (PW.pt (w_and (t_cmp op_ge s_ge (e_ixU hu (e_var 0) (e_var 3)) (e_op op_pow s_pow e_int e_int)) (w_and1 (t_cmp op_gt s_gt (e_var 4) e_int)))) (s_cons (s_putU 1 hu rfl (e_br 1) (e_add e_int (e_var 3)) (e_op op_fdivX s_divX (e_var 4) (e_var 2)))
    (s_one (s_ret (e_op op_modN s_mod (e_var 4) (e_var 2))))) s_nil)
    (s_cons (s_setF 5 sc__law_draw.nd (e_op op_modN s_mod (e_add (e_ixU hu (e_var 0) (e_var 3)) (e_op op_mulW s_mul e_int (e_ixU hu (e_br 1) e_int))) e_int))
    (s_cons (s_setF 5 sc__law_draw.nd (e_op op_modN s_mod (e_op op_pow s_pow (e_var 5) e_int) e_int))
    (s_one (s_ret (e_op op_modN s_mod (e_op op_fdivX s_divX (e_op op_modN s_mod (e_add (e_op op_mulW s_mul (e_op op_fdivX s_divX (e_var 5) e_int) e_int) (e_var 5)) e_int) e_int) (e_var 2)))))))))))
abbrev N__law_pick : List Str := ["_law_script", "_law_town_here", "_law_some"]
theorem sc__law_pick : FnScope N__law_pick ["_law_script", "_law_town_here", "_law_some"] (defScope s__law_pick) := ⟨rfl, rfl, rfl, by decide +kernel, rfl, by decide +kernel, by decide +kernel⟩
theorem ok__law_pick {P : Program} {w : World} {K : PySem.W.Frag} {mg : Str → Option Value} {base : Heap} {f : Addr} {fd : FuncData} (F : FunD K "_law_pick" "_law_pick" (defArgs s__law_pick) (defBody s__law_pick) (defScope s__law_pick) [] [] f fd) (B : Bt mg) (C : Ct K w mg) (G__law_draw : FnX P w K mg base "_law_draw" 1 ["_law_script", "_law_town_here", "_law_many"] (spF K [.fz, .io, .fz] f__law_draw .fz)) :
    FnG P w K mg base CX0 2 f fd ["_law_script", "_law_town_here", "_law_some"] (spF K [.fz, .io, .fz] f__law_pick .fz) :=
  fn_data (Oi := [.fz, .io, .fz]) (Ol := []) (r := .fz) F sc__law_pick rfl rfl rfl (fun _ z => by cases z) fun cd A outer s H E hgd hr =>
    have hu := hu65 hr
    (s_one (s_ret (e_ixU hu (e_var 2) (e_callX G__law_draw hgd hr (a_cons (e_var 0) (a_cons (e_br 1) (a_cons (e_lenU B (a_cons (e_var 2) a_nil)) a_nil)))))))
abbrev N__law_const : List Str := ["_law_script", "_law_town_here"]
theorem sc__law_const : FnScope N__law_const ["_law_script", "_law_town_here"] (defScope s__law_const) := ⟨rfl, rfl, rfl, by decide +kernel, rfl, by decide +kernel, by decide +kernel⟩
theorem ok__law_const {P : Program} {w : World} {K : PySem.W.Frag} {mg : Str → Option Value} {base : Heap} {f : Addr} {fd : FuncData} (F : FunD K "_law_const" "_law_const" (defArgs s__law_const) (defBody s__law_const) (defScope s__law_const) [] [] f fd) (B : Bt mg) (C : Ct K w mg) (G__law_pick : FnX P w K mg base "_law_pick" 2 ["_law_script", "_law_town_here", "_law_some"] (spF K [.fz, .io, .fz] f__law_pick .fz)) :
    FnG P w K mg base CX0 3 f fd ["_law_script", "_law_town_here"] (spF K [.fz, .io] f__law_const .fz) :=
  fn_data (Oi := [.fz, .io]) (Ol := []) (r := .fz) F sc__law_const rfl rfl rfl (fun _ z => by cases z) fun cd A outer s H E hgd hr =>
    have hu := hu65 hr
    (s_one (s_ret (e_callX G__law_pick hgd hr (a_cons (e_var 0) (a_cons (e_br 1) (a_cons (e_frz (e_lst (a_cons e_int (a_cons e_int (a_cons e_int (a_cons e_int (a_cons (e_un un_neg s_neg e_int) (a_cons e_int (a_cons (e_op op_pow s_pow e_int e_int) (a_cons e_bl (a_cons e_bl (a_cons e_non (a_cons e_str (a_cons e_str a_nil)))))))))))))) a_nil))))))
abbrev N__law_put : List Str := ["_law_rows", "_law_op", "_law_arg"]
theorem sc__law_put : FnScope N__law_put ["_law_rows", "_law_op", "_law_arg"] (defScope s__law_put) := ⟨rfl, rfl, rfl, by decide +kernel, rfl, by decide +kernel, by decide +kernel⟩
theorem ok__law_put {P : Program} {w : World} {K : PySem.W.Frag} {mg : Str → Option Value} {base : Heap} {f : Addr} {fd : FuncData} (F : FunD K "_law_put" "_law_put" (defArgs s__law_put) (defBody s__law_put) (defScope s__law_put) [.non] [] f fd) (B : Bt mg) (C : Ct K w mg) :
    FnG P w K mg base CX0 1 f fd ["_law_rows", "_law_op", "_law_arg"] (spF K [.io, .fz, .fz] f__law_put .fz) :=
  fn_data (Oi := [.io, .fz, .fz]) (Ol := []) (r := .fz) F sc__law_put rfl rfl rfl (fun _ z => by cases z) fun cd A outer s H E hgd hr =>
    have hu := hu65 hr
    (s_one (s_expr (e_mut 0 PySem.F.plainAttrs_list PySem.F.slot_list_append PySem.F.type_list_append mt_append ms_append (e_br 0) (a_cons (e_tup (a_cons (e_var 1) (a_cons (e_var 2) (a_cons (e_add e_int (e_op op_fdivX s_divX (e_lenU B (a_cons (e_br 0) a_nil)) e_int)) a_nil)))) a_nil))))
abbrev N__law_mark : List Str := ["_law_marks"]
theorem sc__law_mark : FnScope N__law_mark ["_law_marks"] (defScope s__law_mark) := ⟨rfl, rfl, rfl, by decide +kernel, rfl, by decide +kernel, by decide +kernel⟩
theorem ok__law_mark {P : Program} {w : World} {K : PySem.W.Frag} {mg : Str → Option Value} {base : Heap} {f : Addr} {fd : FuncData} (F : FunD K "_law_mark" "_law_mark" (defArgs s__law_mark) (defBody s__law_mark) (defScope s__law_mark) [] [] f fd) (B : Bt mg) (C : Ct K w mg) :
    FnG P w K mg base CX0 1 f fd ["_law_marks"] (spF K [.io] f__law_mark .fz) :=
  fn_data (Oi := [.io]) (Ol := []) (r := .fz) F sc__law_mark rfl rfl rfl (fun _ z => by cases z) fun cd A outer s H E hgd hr =>
    have hu := hu65 hr
    (s_cons (s_expr (e_mut 0 PySem.F.plainAttrs_list PySem.F.slot_list_append PySem.F.type_list_append mt_append ms_append (e_br 0) (a_cons (e_lenU B (a_cons (e_br 0) a_nil)) a_nil)))
    (s_one (s_ret (e_ixU hu (e_br 0) (e_un un_neg s_neg e_int)))))
abbrev N__law_value : List Str := ["_law_script", "_law_town_here", "_law_rows", "_law_marks", "_law_deep", "_law_way", "_law_mark_here"]
theorem sc__law_value : FnScope N__law_value ["_law_script", "_law_town_here", "_law_rows", "_law_marks", "_law_deep"] (defScope s__law_value) := ⟨rfl, rfl, rfl, by decide +kernel, rfl, by decide +kernel, by decide +kernel⟩
abbrev N__law_tried_value : List Str := ["_law_script", "_law_town_here", "_law_rows", "_law_marks", "_law_deep", "_law_mark_here", "_law_end"]
theorem sc__law_tried_value : FnScope N__law_tried_value ["_law_script", "_law_town_here", "_law_rows", "_law_marks", "_law_deep"] (defScope s__law_tried_value) := ⟨rfl, rfl, rfl, by decide +kernel, rfl, by decide +kernel, by decide +kernel⟩
abbrev N__law_moved_value : List Str := ["_law_script", "_law_town_here", "_law_rows", "_law_marks", "_law_deep", "_law_many", "_law_k"]
theorem sc__law_moved_value : FnScope N__law_moved_value ["_law_script", "_law_town_here", "_law_rows", "_law_marks", "_law_deep"] (defScope s__law_moved_value) := ⟨rfl, rfl, rfl, by decide +kernel, rfl, by decide +kernel, by decide +kernel⟩
abbrev O__law_moved_value : List Kd := [.fz, .io, .io, .io, .fz, .fz, .fz]
theorem ok__law_value {L : Nat} {r__law_value r__law_tried_value r__law_moved_value : En → Option (D × En)} {P : Program} {w : World} {K : PySem.W.Frag} {mg : Str → Option Value} {base : Heap} {f : Addr} {fd : FuncData} (F : FunD K "_law_value" "_law_value" (defArgs s__law_value) (defBody s__law_value) (defScope s__law_value) [] [] f fd) (B : Bt mg) (C : Ct K w mg) (G__law_const : FnX P w K mg base "_law_const" L ["_law_script", "_law_town_here"] (spF K [.fz, .io] f__law_const .fz)) (G__law_draw : FnX P w K mg base "_law_draw" L ["_law_script", "_law_town_here", "_law_many"] (spF K [.fz, .io, .fz] f__law_draw .fz)) (G__law_mark : FnX P w K mg base "_law_mark" L ["_law_marks"] (spF K [.io] f__law_mark .fz)) (G__law_moved_value : FnX P w K mg base "_law_moved_value" L ["_law_script", "_law_town_here", "_law_rows", "_law_marks", "_law_deep"] (spF K [.fz, .io, .io, .io, .fz] r__law_moved_value .fz)) (G__law_pick : FnX P w K mg base "_law_pick" L ["_law_script", "_law_town_here", "_law_some"] (spF K [.fz, .io, .fz] f__law_pick .fz)) (G__law_put : FnX P w K mg base "_law_put" L ["_law_rows", "_law_op", "_law_arg"] (spF K [.io, .fz, .fz] f__law_put .fz)) (G__law_tried_value : FnX P w K mg base "_law_tried_value" L ["_law_script", "_law_town_here", "_law_rows", "_law_marks", "_law_deep"] (spF K [.fz, .io, .io, .io, .fz] r__law_tried_value .fz)) (G__law_value : FnX P w K mg base "_law_value" L ["_law_script", "_law_town_here", "_law_rows", "_law_marks", "_law_deep"] (spF K [.fz, .io, .io, .io, .fz] r__law_value .fz)) (G1__law_put : FnXD P w K mg base "_law_put" L ["_law_rows", "_law_op", "_law_arg"] (spF K [.io, .fz, .fz] f__law_put .fz) [.none]) :
    FnG P w K mg base CX0 (L + 1) f fd ["_law_script", "_law_town_here", "_law_rows", "_law_marks", "_law_deep"] (spF K [.fz, .io, .io, .io, .fz] (mFun [.fz, .io, .io, .io, .fz] 2 .fz (m__law_value r__law_value r__law_tried_value r__law_moved_value)) .fz) :=
  fn_data (Oi := [.fz, .io, .io, .io, .fz]) (Ol := [.fz, .fz]) (r := .fz) F sc__law_value rfl rfl rfl (fun _ z => by cases z) fun cd A outer s H E hgd hr =>
    have hu := hu65 hr
    (s_cons (s_setF 5 sc__law_value.nd (e_if (t_cmp op_gt s_gt (e_var 4) e_int) (e_callX (hj := Nat.le_refl _) G__law_draw hgd hr (a_cons (e_var 0) (a_cons (e_br 1) (a_cons e_int a_nil)))) (e_callX (hj := Nat.le_refl _) G__law_draw hgd hr (a_cons (e_var 0) (a_cons (e_br 1) (a_cons e_int a_nil))))))
    (s_one (s_if (t_cmp op_lt s_lt (e_var 5) e_int) (s_one (s_expr (e_callX (hj := Nat.le_refl _) G__law_put hgd hr (a_cons (e_br 2) (a_cons e_str (a_cons (e_callX (hj := Nat.le_refl _) G__law_const hgd hr (a_cons (e_var 0) (a_cons (e_br 1) a_nil))) a_nil)))))) (s_one (s_if (t_cmp op_lt s_lt (e_var 5) e_int) (s_one (s_expr (e_callX (hj := Nat.le_refl _) G__law_put hgd hr (a_cons (e_br 2) (a_cons e_str (a_cons (e_callX (hj := Nat.le_refl _) G__law_pick hgd hr (a_cons (e_var 0) (a_cons (e_br 1) (a_cons (e_frz (e_lst (a_cons e_str (a_cons e_str (a_cons e_str a_nil))))) a_nil)))) a_nil)))))) (s_one (s_if (t_cmp op_lt s_lt (e_var 5) e_int) (s_cons (s_expr (e_callX (hj := Nat.le_refl _) G__law_value hgd hr (a_cons (e_var 0) (a_cons (e_br 1) (a_cons (e_br 2) (a_cons (e_br 3) (a_cons (e_op op_sub s_sub (e_var 4) e_int) a_nil)))))))
    (s_cons (s_expr (e_callX (hj := Nat.le_refl _) G__law_value hgd hr (a_cons (e_var 0) (a_cons (e_br 1) (a_cons (e_br 2) (a_cons (e_br 3) (a_cons (e_op op_sub s_sub (e_var 4) e_int) a_nil)))))))
    (s_one (s_expr (e_callXD (hj := Nat.le_refl _) G1__law_put hgd hr (a_cons (e_br 2) (a_cons (e_callX (hj := Nat.le_refl _) G__law_pick hgd hr (a_cons (e_var 0) (a_cons (e_br 1) (a_cons (e_frz (e_lst (a_cons e_str (a_cons e_str (a_cons e_str (a_cons e_str (a_cons e_str (a_cons e_str (a_cons e_str a_nil))))))))) a_nil)))) a_nil))))))) (s_one (s_if (t_eq hu (e_var 5) e_int) (s_cons (s_expr (e_callX (hj := Nat.le_refl _) G__law_value hgd hr (a_cons (e_var 0) (a_cons (e_br 1) (a_cons (e_br 2) (a_cons (e_br 3) (a_cons (e_op op_sub s_sub (e_var 4) e_int) a_nil)))))))
    (s_one (s_expr (e_callXD (hj := Nat.le_refl _) G1__law_put hgd hr (a_cons (e_br 2) (a_cons (e_callX (hj := Nat.le_refl _) G__law_pick hgd hr (a_cons (e_var 0) (a_cons (e_br 1) (a_cons (e_frz (e_lst (a_cons e_str (a_cons e_str a_nil)))) a_nil)))) a_nil)))))) (s_one (s_if (t_eq hu (e_var 5) e_int) (s_cons (s_setF 6 sc__law_value.nd (e_callX (hj := Nat.le_refl _) G__law_mark hgd hr (a_cons (e_br 3) a_nil)))
    (s_cons (s_expr (e_callX (hj := Nat.le_refl _) G__law_value hgd hr (a_cons (e_var 0) (a_cons (e_br 1) (a_cons (e_br 2) (a_cons (e_br 3) (a_cons (e_op op_sub s_sub (e_var 4) e_int) a_nil)))))))
    (s_cons (s_expr (e_callX (hj := Nat.le_refl _) G__law_put hgd hr (a_cons (e_br 2) (a_cons (e_callX (hj := Nat.le_refl _) G__law_pick hgd hr (a_cons (e_var 0) (a_cons (e_br 1) (a_cons (e_frz (e_lst (a_cons e_str (a_cons e_str a_nil)))) a_nil)))) (a_cons (e_var 6) a_nil)))))
    (s_cons (s_expr (e_callX (hj := Nat.le_refl _) G__law_value hgd hr (a_cons (e_var 0) (a_cons (e_br 1) (a_cons (e_br 2) (a_cons (e_br 3) (a_cons (e_op op_sub s_sub (e_var 4) e_int) a_nil)))))))
    (s_one (s_expr (e_callX (hj := Nat.le_refl _) G__law_put hgd hr (a_cons (e_br 2) (a_cons e_str (a_cons (e_var 6) a_nil)))))))))) (s_one (s_if (t_eq hu (e_var 5) e_int) (s_one (s_expr (e_callX (hj := Nat.le_refl _) G__law_tried_value hgd hr (a_cons (e_var 0) (a_cons (e_br 1) (a_cons (e_br 2) (a_cons (e_br 3) (a_cons (e_var 4) a_nil)))))))) (s_one (s_expr (e_callX (hj := Nat.le_refl _) G__law_moved_value hgd hr (a_cons (e_var 0) (a_cons (e_br 1) (a_cons (e_br 2) (a_cons (e_br 3) (a_cons (e_var 4) a_nil)))))))))))))))))))))
theorem ok__law_tried_value {L : Nat} {r__law_value r__law_tried_value r__law_moved_value : En → Option (D × En)} {P : Program} {w : World} {K : PySem.W.Frag} {mg : Str → Option Value} {base : Heap} {f : Addr} {fd : FuncData} (F : FunD K "_law_tried_value" "_law_tried_value" (defArgs s__law_tried_value) (defBody s__law_tried_value) (defScope s__law_tried_value) [] [] f fd) (B : Bt mg) (C : Ct K w mg) (G__law_mark : FnX P w K mg base "_law_mark" L ["_law_marks"] (spF K [.io] f__law_mark .fz)) (G__law_put : FnX P w K mg base "_law_put" L ["_law_rows", "_law_op", "_law_arg"] (spF K [.io, .fz, .fz] f__law_put .fz)) (G__law_value : FnX P w K mg base "_law_value" L ["_law_script", "_law_town_here", "_law_rows", "_law_marks", "_law_deep"] (spF K [.fz, .io, .io, .io, .fz] r__law_value .fz)) (G1__law_put : FnXD P w K mg base "_law_put" L ["_law_rows", "_law_op", "_law_arg"] (spF K [.io, .fz, .fz] f__law_put .fz) [.none]) :
    FnG P w K mg base CX0 (L + 1) f fd ["_law_script", "_law_town_here", "_law_rows", "_law_marks", "_law_deep"] (spF K [.fz, .io, .io, .io, .fz] (mFun [.fz, .io, .io, .io, .fz] 2 .fz (m__law_tried_value r__law_value r__law_tried_value r__law_moved_value)) .fz) :=
  fn_data (Oi := [.fz, .io, .io, .io, .fz]) (Ol := [.fz, .fz]) (r := .fz) F sc__law_tried_value rfl rfl rfl (fun _ z => by cases z) fun cd A outer s H E hgd hr =>
    have hu := hu65 hr
    (s_cons (s_setF 5 sc__law_tried_value.nd (e_callX (hj := Nat.le_refl _) G__law_mark hgd hr (a_cons (e_br 3) a_nil)))
    (s_cons (s_setF 6 sc__law_tried_value.nd (e_callX (hj := Nat.le_refl _) G__law_mark hgd hr (a_cons (e_br 3) a_nil)))
    (s_cons (s_expr (e_callX (hj := Nat.le_refl _) G__law_put hgd hr (a_cons (e_br 2) (a_cons e_str (a_cons (e_var 5) a_nil)))))
    (s_cons (s_expr (e_callX (hj := Nat.le_refl _) G__law_value hgd hr (a_cons (e_var 0) (a_cons (e_br 1) (a_cons (e_br 2) (a_cons (e_br 3) (a_cons (e_op op_sub s_sub (e_var 4) e_int) a_nil)))))))
    (s_cons (s_expr (e_callXD (hj := Nat.le_refl _) G1__law_put hgd hr (a_cons (e_br 2) (a_cons e_str a_nil))))
    (s_cons (s_expr (e_callX (hj := Nat.le_refl _) G__law_put hgd hr (a_cons (e_br 2) (a_cons e_str (a_cons (e_var 6) a_nil)))))
    (s_cons (s_expr (e_callX (hj := Nat.le_refl _) G__law_put hgd hr (a_cons (e_br 2) (a_cons e_str (a_cons (e_var 5) a_nil)))))
    (s_one (s_expr (e_callX (hj := Nat.le_refl _) G__law_put hgd hr (a_cons (e_br 2) (a_cons e_str (a_cons (e_var 6) a_nil)))))))))))))
theorem ok__law_moved_value {L : Nat} {r__law_value r__law_tried_value r__law_moved_value : En → Option (D × En)} {P : Program} {w : World} {K : PySem.W.Frag} {mg : Str → Option Value} {base : Heap} {f : Addr} {fd : FuncData} (F : FunD K "_law_moved_value" "_law_moved_value" (defArgs s__law_moved_value) (defBody s__law_moved_value) (defScope s__law_moved_value) [] [] f fd) (B : Bt mg) (C : Ct K w mg) (G__law_draw : FnX P w K mg base "_law_draw" L ["_law_script", "_law_town_here", "_law_many"] (spF K [.fz, .io, .fz] f__law_draw .fz)) (G__law_pick : FnX P w K mg base "_law_pick" L ["_law_script", "_law_town_here", "_law_some"] (spF K [.fz, .io, .fz] f__law_pick .fz)) (G__law_put : FnX P w K mg base "_law_put" L ["_law_rows", "_law_op", "_law_arg"] (spF K [.io, .fz, .fz] f__law_put .fz)) (G__law_value : FnX P w K mg base "_law_value" L ["_law_script", "_law_town_here", "_law_rows", "_law_marks", "_law_deep"] (spF K [.fz, .io, .io, .io, .fz] r__law_value .fz)) (G1__law_put : FnXD P w K mg base "_law_put" L ["_law_rows", "_law_op", "_law_arg"] (spF K [.io, .fz, .fz] f__law_put .fz) [.none]) :
    FnG P w K mg base CX0 (L + 1) f fd ["_law_script", "_law_town_here", "_law_rows", "_law_marks", "_law_deep"] (spF K [.fz, .io, .io, .io, .fz] (mFun [.fz, .io, .io, .io, .fz] 2 .fz (m__law_moved_value r__law_value r__law_tried_value r__law_moved_value)) .fz) :=
  fn_data (Oi := [.fz, .io, .io, .io, .fz]) (Ol := [.fz, .fz]) (r := .fz) F sc__law_moved_value rfl rfl rfl (fun _ z => by cases z) fun cd A outer s H E hgd hr =>
    have hu := hu65 hr
    (s_cons (s_setF 5 sc__law_moved_value.nd (e_add e_int (e_callX (hj := Nat.le_refl _) G__law_draw hgd hr (a_cons (e_var 0) (a_cons (e_br 1) (a_cons e_int a_nil))))))
    (s_cons (s_for (L := O__law_moved_value) PassesOwn.never rfl (i_rng1 B.range (a_cons (e_var 5) a_nil)) (g_name 6 sc__law_moved_value.nd) (s_one (s_expr (e_callX (hj := Nat.le_refl _) G__law_value hgd hr (a_cons (e_var 0) (a_cons (e_br 1) (a_cons (e_br 2) (a_cons (e_br 3) (a_cons e_int a_nil)))))))))
    (s_cons (s_for (L := O__law_moved_value) PassesOwn.never rfl (i_rng1 B.range (a_cons (e_callX (hj := Nat.le_refl _) G__law_draw hgd hr (a_cons (e_var 0) (a_cons (e_br 1) (a_cons e_int a_nil)))) a_nil)) (g_name 6 sc__law_moved_value.nd) (s_one (s_expr (e_callX (hj := Nat.le_refl _) G__law_put hgd hr (a_cons (e_br 2) (a_cons e_str (a_cons (e_add e_int (e_callX (hj := Nat.le_refl _) G__law_draw hgd hr (a_cons (e_var 0) (a_cons (e_br 1) (a_cons (e_op op_sub s_sub (e_var 5) e_int) a_nil))))) a_nil)))))))
    (s_cons (s_if (t_eq hu (e_callX (hj := Nat.le_refl _) G__law_draw hgd hr (a_cons (e_var 0) (a_cons (e_br 1) (a_cons e_int a_nil)))) e_int) (s_cons (s_expr (e_callX (hj := Nat.le_refl _) G__law_put hgd hr (a_cons (e_br 2) (a_cons e_str (a_cons (e_add e_int (e_callX (hj := Nat.le_refl _) G__law_draw hgd hr (a_cons (e_var 0) (a_cons (e_br 1) (a_cons (e_var 5) a_nil))))) a_nil)))))
    (s_one (s_expr (e_callXD (hj := Nat.le_refl _) G1__law_put hgd hr (a_cons (e_br 2) (a_cons e_str a_nil)))))) s_nil)
    (s_one (s_for (L := O__law_moved_value) PassesOwn.never rfl (i_rng1 B.range (a_cons (e_op op_sub s_sub (e_var 5) e_int) a_nil)) (g_name 6 sc__law_moved_value.nd) (s_one (s_expr (e_callXD (hj := Nat.le_refl _) G1__law_put hgd hr (a_cons (e_br 2) (a_cons (e_callX (hj := Nat.le_refl _) G__law_pick hgd hr (a_cons (e_var 0) (a_cons (e_br 1) (a_cons (e_frz (e_lst (a_cons e_str (a_cons e_str (a_cons e_str a_nil))))) a_nil)))) a_nil)))))))))))
abbrev N__law_deed : List Str := ["_law_script", "_law_town_here", "_law_rows", "_law_marks", "_law_deep", "_law_way"]
theorem sc__law_deed : FnScope N__law_deed ["_law_script", "_law_town_here", "_law_rows", "_law_marks", "_law_deep"] (defScope s__law_deed) := ⟨rfl, rfl, rfl, by decide +kernel, rfl, by decide +kernel, by decide +kernel⟩
abbrev N__law_choice : List Str := ["_law_script", "_law_town_here", "_law_rows", "_law_marks", "_law_deep", "_law_other", "_law_end"]
theorem sc__law_choice : FnScope N__law_choice ["_law_script", "_law_town_here", "_law_rows", "_law_marks", "_law_deep"] (defScope s__law_choice) := ⟨rfl, rfl, rfl, by decide +kernel, rfl, by decide +kernel, by decide +kernel⟩
abbrev N__law_round : List Str := ["_law_script", "_law_town_here", "_law_rows", "_law_marks", "_law_deep", "_law_begin", "_law_end"]
theorem sc__law_round : FnScope N__law_round ["_law_script", "_law_town_here", "_law_rows", "_law_marks", "_law_deep"] (defScope s__law_round) := ⟨rfl, rfl, rfl, by decide +kernel, rfl, by decide +kernel, by decide +kernel⟩
abbrev N__law_tried : List Str := ["_law_script", "_law_town_here", "_law_rows", "_law_marks", "_law_deep", "_law_hand", "_law_end"]
theorem sc__law_tried : FnScope N__law_tried ["_law_script", "_law_town_here", "_law_rows", "_law_marks", "_law_deep"] (defScope s__law_tried) := ⟨rfl, rfl, rfl, by decide +kernel, rfl, by decide +kernel, by decide +kernel⟩
theorem ok__law_deed {L : Nat} {r__law_deed r__law_choice r__law_round r__law_tried : En → Option (D × En)} {P : Program} {w : World} {K : PySem.W.Frag} {mg : Str → Option Value} {base : Heap} {f : Addr} {fd : FuncData} (F : FunD K "_law_deed" "_law_deed" (defArgs s__law_deed) (defBody s__law_deed) (defScope s__law_deed) [] [] f fd) (B : Bt mg) (C : Ct K w mg) (G__law_choice : FnX P w K mg base "_law_choice" L ["_law_script", "_law_town_here", "_law_rows", "_law_marks", "_law_deep"] (spF K [.fz, .io, .io, .io, .fz] r__law_choice .fz)) (G__law_draw : FnX P w K mg base "_law_draw" L ["_law_script", "_law_town_here", "_law_many"] (spF K [.fz, .io, .fz] f__law_draw .fz)) (G__law_pick : FnX P w K mg base "_law_pick" L ["_law_script", "_law_town_here", "_law_some"] (spF K [.fz, .io, .fz] f__law_pick .fz)) (G__law_put : FnX P w K mg base "_law_put" L ["_law_rows", "_law_op", "_law_arg"] (spF K [.io, .fz, .fz] f__law_put .fz)) (G__law_round : FnX P w K mg base "_law_round" L ["_law_script", "_law_town_here", "_law_rows", "_law_marks", "_law_deep"] (spF K [.fz, .io, .io, .io, .fz] r__law_round .fz)) (G__law_tried : FnX P w K mg base "_law_tried" L ["_law_script", "_law_town_here", "_law_rows", "_law_marks", "_law_deep"] (spF K [.fz, .io, .io, .io, .fz] r__law_tried .fz)) (G__law_value : FnX P w K mg base "_law_value" L ["_law_script", "_law_town_here", "_law_rows", "_law_marks", "_law_deep"] (spF K [.fz, .io, .io, .io, .fz] f__law_value .fz)) (G1__law_put : FnXD P w K mg base "_law_put" L ["_law_rows", "_law_op", "_law_arg"] (spF K [.io, .fz, .fz] f__law_put .fz) [.none]) :
    FnG P w K mg base CX0 (L + 1) f fd ["_law_script", "_law_town_here", "_law_rows", "_law_marks", "_law_deep"] (spF K [.fz, .io, .io, .io, .fz] (mFun [.fz, .io, .io, .io, .fz] 1 .fz (m__law_deed r__law_deed r__law_choice r__law_round r__law_tried)) .fz) :=
  fn_data (Oi := [.fz, .io, .io, .io, .fz]) (Ol := [.fz]) (r := .fz) F sc__law_deed rfl rfl rfl (fun _ z => by cases z) fun cd A outer s H E hgd hr =>
    have hu := hu65 hr
    (s_cons (s_setF 5 sc__law_deed.nd (e_if (t_cmp op_gt s_gt (e_var 4) e_int) (e_callX (hj := Nat.le_refl _) G__law_draw hgd hr (a_cons (e_var 0) (a_cons (e_br 1) (a_cons e_int a_nil)))) (e_callX (hj := Nat.le_refl _) G__law_draw hgd hr (a_cons (e_var 0) (a_cons (e_br 1) (a_cons e_int a_nil))))))
    (s_one (s_if (t_cmp op_lt s_lt (e_var 5) e_int) (s_cons (s_expr (e_callX (hj := Nat.le_refl _) G__law_value hgd hr (a_cons (e_var 0) (a_cons (e_br 1) (a_cons (e_br 2) (a_cons (e_br 3) (a_cons e_int a_nil)))))))
    (s_one (s_expr (e_callX (hj := Nat.le_refl _) G__law_put hgd hr (a_cons (e_br 2) (a_cons e_str (a_cons (e_callX (hj := Nat.le_refl _) G__law_pick hgd hr (a_cons (e_var 0) (a_cons (e_br 1) (a_cons (e_frz (e_lst (a_cons e_str (a_cons e_str (a_cons e_str a_nil))))) a_nil)))) a_nil))))))) (s_one (s_if (t_eq hu (e_var 5) e_int) (s_cons (s_expr (e_callX (hj := Nat.le_refl _) G__law_value hgd hr (a_cons (e_var 0) (a_cons (e_br 1) (a_cons (e_br 2) (a_cons (e_br 3) (a_cons e_int a_nil)))))))
    (s_one (s_expr (e_callXD (hj := Nat.le_refl _) G1__law_put hgd hr (a_cons (e_br 2) (a_cons e_str a_nil)))))) (s_one (s_if (t_eq hu (e_var 5) e_int) (s_one (s_expr (e_callX (hj := Nat.le_refl _) G__law_put hgd hr (a_cons (e_br 2) (a_cons e_str (a_cons (e_callX (hj := Nat.le_refl _) G__law_pick hgd hr (a_cons (e_var 0) (a_cons (e_br 1) (a_cons (e_frz (e_lst (a_cons e_str (a_cons e_str a_nil)))) a_nil)))) a_nil)))))) (s_one (s_if (t_cmp op_lt s_lt (e_var 5) e_int) (s_one (s_expr (e_callX (hj := Nat.le_refl _) G__law_choice hgd hr (a_cons (e_var 0) (a_cons (e_br 1) (a_cons (e_br 2) (a_cons (e_br 3) (a_cons (e_var 4) a_nil)))))))) (s_one (s_if (t_cmp op_lt s_lt (e_var 5) e_int) (s_one (s_expr (e_callX (hj := Nat.le_refl _) G__law_round hgd hr (a_cons (e_var 0) (a_cons (e_br 1) (a_cons (e_br 2) (a_cons (e_br 3) (a_cons (e_var 4) a_nil)))))))) (s_one (s_if (t_eq hu (e_var 5) e_int) (s_one (s_expr (e_callX (hj := Nat.le_refl _) G__law_tried hgd hr (a_cons (e_var 0) (a_cons (e_br 1) (a_cons (e_br 2) (a_cons (e_br 3) (a_cons (e_var 4) a_nil)))))))) (s_cons (s_expr (e_callX (hj := Nat.le_refl _) G__law_value hgd hr (a_cons (e_var 0) (a_cons (e_br 1) (a_cons (e_br 2) (a_cons (e_br 3) (a_cons e_int a_nil)))))))
    (s_one (s_expr (e_callXD (hj := Nat.le_refl _) G1__law_put hgd hr (a_cons (e_br 2) (a_cons e_str a_nil)))))))))))))))))))
theorem ok__law_choice {L : Nat} {r__law_deed r__law_choice r__law_round r__law_tried : En → Option (D × En)} {P : Program} {w : World} {K : PySem.W.Frag} {mg : Str → Option Value} {base : Heap} {f : Addr} {fd : FuncData} (F : FunD K "_law_choice" "_law_choice" (defArgs s__law_choice) (defBody s__law_choice) (defScope s__law_choice) [] [] f fd) (B : Bt mg) (C : Ct K w mg) (G__law_deed : FnX P w K mg base "_law_deed" L ["_law_script", "_law_town_here", "_law_rows", "_law_marks", "_law_deep"] (spF K [.fz, .io, .io, .io, .fz] r__law_deed .fz)) (G__law_draw : FnX P w K mg base "_law_draw" L ["_law_script", "_law_town_here", "_law_many"] (spF K [.fz, .io, .fz] f__law_draw .fz)) (G__law_mark : FnX P w K mg base "_law_mark" L ["_law_marks"] (spF K [.io] f__law_mark .fz)) (G__law_pick : FnX P w K mg base "_law_pick" L ["_law_script", "_law_town_here", "_law_some"] (spF K [.fz, .io, .fz] f__law_pick .fz)) (G__law_put : FnX P w K mg base "_law_put" L ["_law_rows", "_law_op", "_law_arg"] (spF K [.io, .fz, .fz] f__law_put .fz)) (G__law_value : FnX P w K mg base "_law_value" L ["_law_script", "_law_town_here", "_law_rows", "_law_marks", "_law_deep"] (spF K [.fz, .io, .io, .io, .fz] f__law_value .fz)) :
    FnG P w K mg base CX0 (L + 1) f fd ["_law_script", "_law_town_here", "_law_rows", "_law_marks", "_law_deep"] (spF K [.fz, .io, .io, .io, .fz] (mFun [.fz, .io, .io, .io, .fz] 2 .fz (m__law_choice r__law_deed r__law_choice r__law_round r__law_tried)) .fz) :=
  fn_data (Oi := [.fz, .io, .io, .io, .fz]) (Ol := [.fz, .fz]) (r := .fz) F sc__law_choice rfl rfl rfl (fun _ z => by cases z) fun cd A outer s H E hgd hr =>
    have hu := hu65 hr
    (s_cons (s_par 5 6 sc__law_choice.nd (a_cons (e_callX (hj := Nat.le_refl _) G__law_mark hgd hr (a_cons (e_br 3) a_nil)) (a_cons (e_callX (hj := Nat.le_refl _) G__law_mark hgd hr (a_cons (e_br 3) a_nil)) a_nil)))
    (s_cons (s_expr (e_callX (hj := Nat.le_refl _) G__law_value hgd hr (a_cons (e_var 0) (a_cons (e_br 1) (a_cons (e_br 2) (a_cons (e_br 3) (a_cons e_int a_nil)))))))
    (s_cons (s_expr (e_callX (hj := Nat.le_refl _) G__law_put hgd hr (a_cons (e_br 2) (a_cons (e_callX (hj := Nat.le_refl _) G__law_pick hgd hr (a_cons (e_var 0) (a_cons (e_br 1) (a_cons (e_frz (e_lst (a_cons e_str (a_cons e_str a_nil)))) a_nil)))) (a_cons (e_var 5) a_nil)))))
    (s_cons (s_expr (e_callX (hj := Nat.le_refl _) G__law_deed hgd hr (a_cons (e_var 0) (a_cons (e_br 1) (a_cons (e_br 2) (a_cons (e_br 3) (a_cons (e_op op_sub s_sub (e_var 4) e_int) a_nil)))))))
    (s_cons (s_expr (e_callX (hj := Nat.le_refl _) G__law_put hgd hr (a_cons (e_br 2) (a_cons e_str (a_cons (e_var 6) a_nil)))))
    (s_cons (s_expr (e_callX (hj := Nat.le_refl _) G__law_put hgd hr (a_cons (e_br 2) (a_cons e_str (a_cons (e_var 5) a_nil)))))
    (s_cons (s_if (t_eq hu (e_callX (hj := Nat.le_refl _) G__law_draw hgd hr (a_cons (e_var 0) (a_cons (e_br 1) (a_cons e_int a_nil)))) e_int) (s_one (s_expr (e_callX (hj := Nat.le_refl _) G__law_deed hgd hr (a_cons (e_var 0) (a_cons (e_br 1) (a_cons (e_br 2) (a_cons (e_br 3) (a_cons (e_op op_sub s_sub (e_var 4) e_int) a_nil)))))))) s_nil)
    (s_one (s_expr (e_callX (hj := Nat.le_refl _) G__law_put hgd hr (a_cons (e_br 2) (a_cons e_str (a_cons (e_var 6) a_nil)))))))))))))
theorem ok__law_round {L : Nat} {r__law_deed r__law_choice r__law_round r__law_tried : En → Option (D × En)} {P : Program} {w : World} {K : PySem.W.Frag} {mg : Str → Option Value} {base : Heap} {f : Addr} {fd : FuncData} (F : FunD K "_law_round" "_law_round" (defArgs s__law_round) (defBody s__law_round) (defScope s__law_round) [] [] f fd) (B : Bt mg) (C : Ct K w mg) (G__law_deed : FnX P w K mg base "_law_deed" L ["_law_script", "_law_town_here", "_law_rows", "_law_marks", "_law_deep"] (spF K [.fz, .io, .io, .io, .fz] r__law_deed .fz)) (G__law_mark : FnX P w K mg base "_law_mark" L ["_law_marks"] (spF K [.io] f__law_mark .fz)) (G__law_put : FnX P w K mg base "_law_put" L ["_law_rows", "_law_op", "_law_arg"] (spF K [.io, .fz, .fz] f__law_put .fz)) (G__law_value : FnX P w K mg base "_law_value" L ["_law_script", "_law_town_here", "_law_rows", "_law_marks", "_law_deep"] (spF K [.fz, .io, .io, .io, .fz] f__law_value .fz)) :
    FnG P w K mg base CX0 (L + 1) f fd ["_law_script", "_law_town_here", "_law_rows", "_law_marks", "_law_deep"] (spF K [.fz, .io, .io, .io, .fz] (mFun [.fz, .io, .io, .io, .fz] 2 .fz (m__law_round r__law_deed r__law_choice r__law_round r__law_tried)) .fz) :=
  fn_data (Oi := [.fz, .io, .io, .io, .fz]) (Ol := [.fz, .fz]) (r := .fz) F sc__law_round rfl rfl rfl (fun _ z => by cases z) fun cd A outer s H E hgd hr =>
    have hu := hu65 hr
    (s_cons (s_par 5 6 sc__law_round.nd (a_cons (e_callX (hj := Nat.le_refl _) G__law_mark hgd hr (a_cons (e_br 3) a_nil)) (a_cons (e_callX (hj := Nat.le_refl _) G__law_mark hgd hr (a_cons (e_br 3) a_nil)) a_nil)))
    (s_cons (s_expr (e_callX (hj := Nat.le_refl _) G__law_put hgd hr (a_cons (e_br 2) (a_cons e_str (a_cons (e_var 5) a_nil)))))
    (s_cons (s_expr (e_callX (hj := Nat.le_refl _) G__law_value hgd hr (a_cons (e_var 0) (a_cons (e_br 1) (a_cons (e_br 2) (a_cons (e_br 3) (a_cons e_int a_nil)))))))
    (s_cons (s_expr (e_callX (hj := Nat.le_refl _) G__law_put hgd hr (a_cons (e_br 2) (a_cons e_str (a_cons (e_var 6) a_nil)))))
    (s_cons (s_expr (e_callX (hj := Nat.le_refl _) G__law_deed hgd hr (a_cons (e_var 0) (a_cons (e_br 1) (a_cons (e_br 2) (a_cons (e_br 3) (a_cons (e_op op_sub s_sub (e_var 4) e_int) a_nil)))))))
    (s_cons (s_expr (e_callX (hj := Nat.le_refl _) G__law_put hgd hr (a_cons (e_br 2) (a_cons e_str (a_cons (e_var 5) a_nil)))))
    (s_one (s_expr (e_callX (hj := Nat.le_refl _) G__law_put hgd hr (a_cons (e_br 2) (a_cons e_str (a_cons (e_var 6) a_nil))))))))))))
theorem ok__law_tried {L : Nat} {r__law_deed r__law_choice r__law_round r__law_tried : En → Option (D × En)} {P : Program} {w : World} {K : PySem.W.Frag} {mg : Str → Option Value} {base : Heap} {f : Addr} {fd : FuncData} (F : FunD K "_law_tried" "_law_tried" (defArgs s__law_tried) (defBody s__law_tried) (defScope s__law_tried) [] [] f fd) (B : Bt mg) (C : Ct K w mg) (G__law_deed : FnX P w K mg base "_law_deed" L ["_law_script", "_law_town_here", "_law_rows", "_law_marks", "_law_deep"] (spF K [.fz, .io, .io, .io, .fz] r__law_deed .fz)) (G__law_mark : FnX P w K mg base "_law_mark" L ["_law_marks"] (spF K [.io] f__law_mark .fz)) (G__law_pick : FnX P w K mg base "_law_pick" L ["_law_script", "_law_town_here", "_law_some"] (spF K [.fz, .io, .fz] f__law_pick .fz)) (G__law_put : FnX P w K mg base "_law_put" L ["_law_rows", "_law_op", "_law_arg"] (spF K [.io, .fz, .fz] f__law_put .fz)) (G1__law_put : FnXD P w K mg base "_law_put" L ["_law_rows", "_law_op", "_law_arg"] (spF K [.io, .fz, .fz] f__law_put .fz) [.none]) :
    FnG P w K mg base CX0 (L + 1) f fd ["_law_script", "_law_town_here", "_law_rows", "_law_marks", "_law_deep"] (spF K [.fz, .io, .io, .io, .fz] (mFun [.fz, .io, .io, .io, .fz] 2 .fz (m__law_tried r__law_deed r__law_choice r__law_round r__law_tried)) .fz) :=
  fn_data (Oi := [.fz, .io, .io, .io, .fz]) (Ol := [.fz, .fz]) (r := .fz) F sc__law_tried rfl rfl rfl (fun _ z => by cases z) fun cd A outer s H E hgd hr =>
    have hu := hu65 hr
    (s_cons (s_par 5 6 sc__law_tried.nd (a_cons (e_callX (hj := Nat.le_refl _) G__law_mark hgd hr (a_cons (e_br 3) a_nil)) (a_cons (e_callX (hj := Nat.le_refl _) G__law_mark hgd hr (a_cons (e_br 3) a_nil)) a_nil)))
    (s_cons (s_expr (e_callX (hj := Nat.le_refl _) G__law_put hgd hr (a_cons (e_br 2) (a_cons e_str (a_cons (e_var 5) a_nil)))))
    (s_cons (s_expr (e_callX (hj := Nat.le_refl _) G__law_deed hgd hr (a_cons (e_var 0) (a_cons (e_br 1) (a_cons (e_br 2) (a_cons (e_br 3) (a_cons (e_op op_sub s_sub (e_var 4) e_int) a_nil)))))))
    (s_cons (s_expr (e_callX (hj := Nat.le_refl _) G__law_deed hgd hr (a_cons (e_var 0) (a_cons (e_br 1) (a_cons (e_br 2) (a_cons (e_br 3) (a_cons e_int a_nil)))))))
    (s_cons (s_expr (e_callXD (hj := Nat.le_refl _) G1__law_put hgd hr (a_cons (e_br 2) (a_cons e_str a_nil))))
    (s_cons (s_expr (e_callX (hj := Nat.le_refl _) G__law_put hgd hr (a_cons (e_br 2) (a_cons e_str (a_cons (e_var 6) a_nil)))))
    (s_cons (s_expr (e_callX (hj := Nat.le_refl _) G__law_put hgd hr (a_cons (e_br 2) (a_cons e_str (a_cons (e_var 5) a_nil)))))
    (s_cons (s_expr (e_callXD (hj := Nat.le_refl _) G1__law_put hgd hr (a_cons (e_br 2) (a_cons (e_callX (hj := Nat.le_refl _) G__law_pick hgd hr (a_cons (e_var 0) (a_cons (e_br 1) (a_cons (e_frz (e_lst (a_cons e_str (a_cons e_str (a_cons e_str a_nil))))) a_nil)))) a_nil))))
    (s_cons (s_expr (e_callX (hj := Nat.le_refl _) G__law_deed hgd hr (a_cons (e_var 0) (a_cons (e_br 1) (a_cons (e_br 2) (a_cons (e_br 3) (a_cons e_int a_nil)))))))
    (s_one (s_expr (e_callX (hj := Nat.le_refl _) G__law_put hgd hr (a_cons (e_br 2) (a_cons e_str (a_cons (e_var 6) a_nil)))))))))))))))
abbrev N__law_code : List Str := ["_law_script", "_law_town_here", "_law_many", "_law_rows", "_law_marks", "_law_k"]
theorem sc__law_code : FnScope N__law_code ["_law_script", "_law_town_here", "_law_many"] (defScope s__law_code) := ⟨rfl, rfl, rfl, by decide +kernel, rfl, by decide +kernel, by decide +kernel⟩
abbrev O__law_code : List Kd := [.fz, .io, .fz, .ow, .ow, .fz]
theorem ok__law_code {P : Program} {w : World} {K : PySem.W.Frag} {mg : Str → Option Value} {base : Heap} {f : Addr} {fd : FuncData} (F : FunD K "_law_code" "_law_code" (defArgs s__law_code) (defBody s__law_code) (defScope s__law_code) [] [] f fd) (B : Bt mg) (C : Ct K w mg) (G__law_deed : FnX P w K mg base "_law_deed" 19 ["_law_script", "_law_town_here", "_law_rows", "_law_marks", "_law_deep"] (spF K [.fz, .io, .io, .io, .fz] f__law_deed .fz)) (G__law_draw : FnX P w K mg base "_law_draw" 1 ["_law_script", "_law_town_here", "_law_many"] (spF K [.fz, .io, .fz] f__law_draw .fz)) (G__law_put : FnX P w K mg base "_law_put" 1 ["_law_rows", "_law_op", "_law_arg"] (spF K [.io, .fz, .fz] f__law_put .fz)) (G__law_value : FnX P w K mg base "_law_value" 11 ["_law_script", "_law_town_here", "_law_rows", "_law_marks", "_law_deep"] (spF K [.fz, .io, .io, .io, .fz] f__law_value .fz)) (G1__law_put : FnXD P w K mg base "_law_put" 1 ["_law_rows", "_law_op", "_law_arg"] (spF K [.io, .fz, .fz] f__law_put .fz) [.none]) :
    FnG P w K mg base CX0 20 f fd ["_law_script", "_law_town_here", "_law_many"] (spF K [.fz, .io, .fz] f__law_code .ow) :=
  fn_data (Oi := [.fz, .io, .fz]) (Ol := [.ow, .ow, .fz]) (r := .ow) F sc__law_code rfl rfl rfl (fun _ z => by cases z) fun cd A outer s H E hgd hr =>
    have hu := hu65 hr
    (s_cons (s_setO 3 sc__law_code.nd (e_lst a_nil))
    (s_cons (s_setO 4 sc__law_code.nd (e_lst a_nil))
    (s_cons (s_for (L := O__law_code) PassesOwn.never rfl (i_rng1 B.range (a_cons (e_add e_int (e_callX G__law_draw hgd hr (a_cons (e_var 0) (a_cons (e_br 1) (a_cons (e_var 2) a_nil))))) a_nil)) (g_name 5 sc__law_code.nd) (s_one (s_if (t_cmp op_lt s_lt (e_lenU B (a_cons (e_br 3) a_nil)) e_int) (s_one (s_expr (e_callX G__law_deed hgd hr (a_cons (e_var 0) (a_cons (e_br 1) (a_cons (e_br 3) (a_cons (e_br 4) (a_cons e_int a_nil)))))))) s_nil)))
    (s_cons (s_expr (e_callX G__law_value hgd hr (a_cons (e_var 0) (a_cons (e_br 1) (a_cons (e_br 3) (a_cons (e_br 4) (a_cons e_int a_nil)))))))
    (s_cons (s_expr (e_callXD G1__law_put hgd hr (a_cons (e_br 3) (a_cons e_str a_nil))))
    (s_cons (s_if (PW.pt (w_or (t_cmp op_gt s_gt (e_lenU B (a_cons (e_br 3) a_nil)) e_int) (w_or1 (t_cmp op_gt s_gt (e_lenU B (a_cons (e_br 4) a_nil)) e_int)))) (s_one (s_ret (e_lst (a_cons (e_tup (a_cons e_str (a_cons e_str (a_cons e_int a_nil)))) (a_cons (e_tup (a_cons e_str (a_cons e_non (a_cons e_int a_nil)))) a_nil))))) s_nil)
    (s_one (s_ret (e_mv 3)))))))))
abbrev N__law_shown : List Str := ["_law_thing"]
theorem sc__law_shown : FnScope N__law_shown ["_law_thing"] (defScope s__law_shown) := ⟨rfl, rfl, rfl, by decide +kernel, rfl, by decide +kernel, by decide +kernel⟩
theorem ok__law_shown {P : Program} {w : World} {K : PySem.W.Frag} {mg : Str → Option Value} {base : Heap} {f : Addr} {fd : FuncData} (F : FunD K "_law_shown" "_law_shown" (defArgs s__law_shown) (defBody s__law_shown) (defScope s__law_shown) [] [] f fd) (B : Bt mg) (C : Ct K w mg) :
    FnG P w K mg base CX0 1 f fd ["_law_thing"] (spF K [.fz] f__law_shown .fz) :=
  fn_data (Oi := [.fz]) (Ol := []) (r := .fz) F sc__law_shown rfl rfl rfl (fun _ z => by cases z) fun cd A outer s H E hgd hr =>
    have hu := hu65 hr
    (s_one (s_ret (e_show hgd hu (e_var 0))))
abbrev N__law_line : List Str := ["_law_row", "_law_op", "_law_arg", "_law_line_here", "_law_found"]
theorem sc__law_line : FnScope N__law_line ["_law_row"] (defScope s__law_line) := ⟨rfl, rfl, rfl, by decide +kernel, rfl, by decide +kernel, by decide +kernel⟩
def m__law_line : MS := (mSeq (mAsg (mgT 3 (mgCons (mgN 1) (mgCons (mgN 2) (mgCons (mgN 3) mgNil)))) (mVar 0))
  (mSeq (mSet 4 (m2 (.fz) (.fz) (m2 (.fz) (.fz) (mOp [.fz] (maCons (mVar 3) maNil) dStr) (mC (.str " ")) dAddU) (mVar 1) dAddU))
  (mSeq (mIte (mTr (m2 (.fz) (.fz) (mVar 1) (mC (.str "push")) dEqU)) (mSeq (mIte (mOr (mTr (m2 (.fz) (.fz) (mVar 2) (mC .none) dIsN)) (mOr (mTr (m2 (.fz) (.fz) (mVar 2) (mC (.bool true)) dIsB)) (mTr (m2 (.fz) (.fz) (mVar 2) (mC (.bool false)) dIsB)))) (mRet (m2 (.fz) (.fz) (m2 (.fz) (.fz) (mVar 4) (mC (.str " ")) dAddU) (m1 .fz (mOp [.fz] (maCons (mVar 2) maNil) dStr) dLower) dAddU)) mSkip)
  (mRet (m2 (.fz) (.fz) (mVar 4) (mIf (mTr (m1 (.fz) (mVar 2) (dIs "str"))) (m2 (.fz) (.fz) (m2 (.fz) (.fz) (mC (.str " '")) (mVar 2) dAddU) (mC (.str "'")) dAddU) (m2 (.fz) (.fz) (mC (.str " ")) (mOp [.fz] (maCons (mVar 2) maNil) dStr) dAddU)) dAddU))) mSkip)
  (mRet (mIf (mTr (m2 (.fz) (.fz) (mVar 2) (mC .none) dIsN)) (mVar 4) (m2 (.fz) (.fz) (m2 (.fz) (.fz) (mVar 4) (mC (.str " ")) dAddU) (mOp [.fz] (maCons (mVar 2) maNil) dStr) dAddU))))))
def f__law_line : En → Option (D × En) := mFun [.fz] 4 .fz m__law_line
theorem ok__law_line {P : Program} {w : World} {K : PySem.W.Frag} {mg : Str → Option Value} {base : Heap} {f : Addr} {fd : FuncData} (F : FunD K "_law_line" "_law_line" (defArgs s__law_line) (defBody s__law_line) (defScope s__law_line) [] [] f fd) (B : Bt mg) (C : Ct K w mg) :
    FnG P w K mg base CX0 1 f fd ["_law_row"] (spF K [.fz] f__law_line .fz) :=
  fn_data (Oi := [.fz]) (Ol := [.fz, .fz, .fz, .fz]) (r := .fz) F sc__law_line rfl rfl rfl (fun _ z => by cases z) fun cd A outer s H E hgd hr =>
    have hu := hu65 hr
    (s_cons (s_asg (e_var 0) (g_tup rfl (gs_cons (g_name 1 sc__law_line.nd) (gs_cons (g_name 2 sc__law_line.nd) (gs_cons (g_name 3 sc__law_line.nd) gs_nil)))))
    (s_cons (s_setF 4 sc__law_line.nd (e_add (e_add (e_strU B (a_cons (e_var 3) a_nil)) e_str) (e_var 1)))
    (s_cons (s_if (t_eq hu (e_var 1) e_str) (s_cons (s_if (PW.pt (w_or (t_cmp op_isN1 s_isN (e_var 2) e_non) (w_or (t_cmp op_isB s_isB (e_var 2) e_bl) (w_or1 (t_cmp op_isB s_isB (e_var 2) e_bl))))) (s_one (s_ret (e_add (e_add (e_var 4) e_str) (e_lower (e_strU B (a_cons (e_var 2) a_nil)))))) s_nil)
    (s_one (s_ret (e_add (e_var 4) (e_if (t_val (e_isi B.isinstance B.str (by decide +kernel) (e_var 2))) (e_add (e_add e_str (e_var 2)) e_str) (e_add e_str (e_strU B (a_cons (e_var 2) a_nil)))))))) s_nil)
    (s_one (s_ret (e_if (t_cmp op_isN1 s_isN (e_var 2) e_non) (e_var 4) (e_add (e_add (e_var 4) e_str) (e_strU B (a_cons (e_var 2) a_nil)))))))))
abbrev N_law : List Str := ["_law_script", "_law_town_here", "_law_code_here", "_law_more", "_law_given_code", "_law_text", "_law_told", "_law_row"]
theorem sc_law : FnScope N_law ["_law_script"] (defScope s_law) := ⟨rfl, rfl, rfl, by decide +kernel, rfl, by decide +kernel, by decide +kernel⟩
abbrev O_law : List Kd := [.fz, .ow, .fz, .fz, .fz, .fz, .fz, .fz]
def m_law : MS := (mSeq (mSet 1 (mCall f__law_town [.fz] [] (maCons (mVar 0) maNil)))
  (mSeq (mSet 2 (mCall f__law_code [.fz, .br 1, .fz] [] (maCons (mVar 0) (maCons (mBr 1) (maCons (mC (.int 5)) maNil)))))
  (mSeq (mSet 3 (mLst (maCons (mTup (maCons (mC (.str "push")) (maCons (mCall f__law_pick [.fz, .br 1, .fz] [] (maCons (mVar 0) (maCons (mBr 1) (maCons (mLst (maCons (m1 (.fz) (m2 (.fz) (.fz) (mC (.int 10)) (mC (.int 9)) dPow) dNeg) (maCons (m2 (.fz) (.fz) (mC (.int 10)) (mC (.int 9)) dPow) (maCons (mC (.str "aB")) (maCons (mC (.bool true)) (maCons (mC (.int 1)) (maCons (mC (.int 0)) (maCons (mC (.bool false)) maNil)))))))) maNil)))) (maCons (mC (.int 0)) maNil)))) (maCons (mTup (maCons (mC (.str "drop")) (maCons (mC .none) (maCons (mC (.int 9999)) maNil)))) maNil))))
  (mSeq (mSet 2 (m2 (.fz) (.fz) (mVar 3) (mVar 2) dAddU))
  (mSeq (mSet 4 (mOp [.fz] (maCons (mVar 2) maNil) dList))
  (mSeq (mSet 5 (mCall f_code_text [.fz] [] (maCons (mVar 4) maNil)))
  (mSeq (mIte (mOr (mTr (m2 (.fz) (.fz) (mVar 5) (mJoin (mC (.str "")) (.ow) (mLc (mItU (mVar 2)) (mgN 7) mYes (m2 (.fz) (.fz) (mCall f__law_line [.fz] [] (maCons (mVar 7) maNil)) (mC (.str "\n")) dAddU) [7])) dNeU)) (mTr (m2 (.fz) (.fz) (mVar 4) (mVar 2) dNeU))) (mRet (mC (.bool false))) mSkip)
  (mSeq (mSet 6 (mCall f_read_code [.fz] [] (maCons (mVar 5) maNil)))
  (mRet (mAndV (m2 (.fz) (.fz) (mCall f__law_shown [.fz] [] (maCons (mVar 6) maNil)) (mCall f__law_shown [.fz] [] (maCons (mVar 2) maNil)) dEqU) (mAndV (m1 (.fz) (mVar 6) (dIs "list")) (m2 (.fz) (.fz) (mCall f_code_text [.fz] [] (maCons (mVar 6) maNil)) (mVar 5) dEqU))))))))))))
def f_law : En → Option (D × En) := mFun [.fz] 7 .fz m_law
theorem ok_law {P : Program} {w : World} {K : PySem.W.Frag} {mg : Str → Option Value} {base : Heap} {f : Addr} {fd : FuncData} (F : FunD K "law" "law" (defArgs s_law) (defBody s_law) (defScope s_law) [] [] f fd) (B : Bt mg) (C : Ct K w mg) (G__law_code : FnX P w K mg base "_law_code" 20 ["_law_script", "_law_town_here", "_law_many"] (spF K [.fz, .io, .fz] f__law_code .ow)) (G__law_line : FnX P w K mg base "_law_line" 1 ["_law_row"] (spF K [.fz] f__law_line .fz)) (G__law_pick : FnX P w K mg base "_law_pick" 2 ["_law_script", "_law_town_here", "_law_some"] (spF K [.fz, .io, .fz] f__law_pick .fz)) (G__law_shown : FnX P w K mg base "_law_shown" 1 ["_law_thing"] (spF K [.fz] f__law_shown .fz)) (G__law_town : FnX P w K mg base "_law_town" 1 ["_law_script"] (spF K [.fz] f__law_town .ow)) (G_code_text : FnX P w K mg base "code_text" 6 ["code"] (spF K [.fz] f_code_text .fz)) (G_read_code : FnX P w K mg base "read_code" 6 ["text"] (spF K [.fz] f_read_code .fz)) :
    FnG P w K mg base CX0 21 f fd ["_law_script"] (spF K [.fz] f_law .fz) :=
  fn_data (Oi := [.fz]) (Ol := [.ow, .fz, .fz, .fz, .fz, .fz, .fz]) (r := .fz) F sc_law rfl rfl rfl (fun _ z => by cases z) fun cd A outer s H E hgd hr =>
    have hu := hu65 hr
    (s_cons (s_setO 1 sc_law.nd (e_callX G__law_town hgd hr (a_cons (e_var 0) a_nil)))
    (s_cons (s_setF 2 sc_law.nd (e_frz (e_callX G__law_code hgd hr (a_cons (e_var 0) (a_cons (e_br 1) (a_cons e_int a_nil))))))
    (s_cons (s_setF 3 sc_law.nd (e_frz (e_lst (a_cons (e_tup (a_cons e_str (a_cons (e_callX G__law_pick hgd hr (a_cons (e_var 0) (a_cons (e_br 1) (a_cons (e_frz (e_lst (a_cons (e_un un_neg s_neg (e_op op_pow s_pow e_int e_int)) (a_cons (e_op op_pow s_pow e_int e_int) (a_cons e_str (a_cons e_bl (a_cons e_int (a_cons e_int (a_cons e_bl a_nil))))))))) a_nil)))) (a_cons e_int a_nil)))) (a_cons (e_tup (a_cons e_str (a_cons e_non (a_cons e_int a_nil)))) a_nil)))))
    (s_cons (s_setF 2 sc_law.nd (e_add (e_var 3) (e_var 2)))
    (s_cons (s_setF 4 sc_law.nd (e_frz (e_list B (a_cons (e_var 2) a_nil))))
    (s_cons (s_setF 5 sc_law.nd (e_callX G_code_text hgd hr (a_cons (e_var 4) a_nil)))
    (s_cons (s_if (PW.pt (w_or (t_ne hu (e_var 5) (e_join e_str (e_lc (own := [("_law_row", 7)]) (L := O_law) rfl sc_law.nd (i_any (e_var 2)) (blkOk_by (N := N_law) (sc := defScope s_law) (by decide +kernel)) (fun _ _ _ _ _ => (g_name 7 sc_law.nd)) (fun _ _ _ _ _ => ts_nil) (fun _ _ _ _ _ => (e_add (e_callX G__law_line hgd hr (a_cons (e_var 7) a_nil)) e_str))))) (w_or1 (t_ne hu (e_var 4) (e_var 2))))) (s_one (s_ret e_bl)) s_nil)
    (s_cons (s_setF 6 sc_law.nd (e_callX G_read_code hgd hr (a_cons (e_var 5) a_nil)))
    (s_one (s_ret (e_and (e_eq hu (e_callX G__law_shown hgd hr (a_cons (e_var 6) a_nil)) (e_callX G__law_shown hgd hr (a_cons (e_var 2) a_nil))) (e_and (e_isi B.isinstance B.list (by decide +kernel) (e_var 6)) (e_one (e_eq hu (e_callX G_code_text hgd hr (a_cons (e_var 6) a_nil)) (e_var 5)))))))))))))))
inductive Val where
  | non | bool (b : Bool) | int (i : Int) | str (s : Str)
  deriving DecidableEq
def Val.d : Val → D
  | .non => .none
  | .bool b => .bool b
  | .int i => .int i
  | .str s => .str s
inductive NOp where
  | load | quick | store | clear
  deriving DecidableEq
def NOp.s : NOp → Str
  | .load => "load" | .quick => "quick" | .store => "store" | .clear => "clear"
inductive JOp where
  | jump | iftrue | iffalse | ortrue | orfalse
  deriving DecidableEq
def JOp.s : JOp → Str
  | .jump => "jump" | .iftrue => "iftrue" | .iffalse => "iffalse" | .ortrue => "ortrue" | .orfalse => "orfalse"
inductive POp where
  | add | sub | mul | div | rest | less | same
  deriving DecidableEq
def POp.s : POp → Str
  | .add => "add" | .sub => "sub" | .mul => "mul" | .div => "div" | .rest => "rest" | .less => "less" | .same => "same"
inductive BOp where
  | neg | not | drop | tell | ret | rais
  deriving DecidableEq
def BOp.s : BOp → Str
  | .neg => "neg" | .not => "not" | .drop => "drop" | .tell => "tell" | .ret => "return" | .rais => "raise"
inductive Row where
  | push (v : Val) (l : Nat)
  | nm (o : NOp) (n : Str) (l : Nat)
  | copy (n : Nat) (l : Nat)
  | swap (n : Nat) (l : Nat)
  | jmp (o : JOp) (m : Nat) (l : Nat)
  | tri (m : Nat) (l : Nat)
  | label (m : Nat) (l : Nat)
  | pr (o : POp) (l : Nat)
  | bare (o : BOp) (l : Nat)
  | endtry (l : Nat)
  deriving DecidableEq
abbrev dN (n : Nat) : D := .int (n : Int)
abbrev dRow (o : Str) (a : D) (l : Nat) : D := .tuple [.str o, a, dN l]
def Row.d : Row → D
  | .push v l => dRow "push" v.d l
  | .nm o n l => dRow o.s (.str n) l
  | .copy n l => dRow "copy" (dN n) l
  | .swap n l => dRow "swap" (dN n) l
  | .jmp o m l => dRow o.s (dN m) l
  | .tri m l => dRow "try" (dN m) l
  | .label m l => dRow "label" (dN m) l
  | .pr o l => dRow o.s .none l
  | .bare o l => dRow o.s .none l
  | .endtry l => dRow "endtry" .none l
abbrev Code := List Row
abbrev Code.d (c : Code) : D := .list (c.map Row.d)
def Row.takes : Row → Nat
  | .copy n _ => n
  | .swap n _ => n
  | .pr _ _ => 2
  | .nm .store _ _ => 1
  | .bare _ _ => 1
  | .jmp .jump _ _ => 0
  | .jmp _ _ _ => 1
  | _ => 0
theorem takes_ok (r : Row) : f_takes [some r.d] = some (dN r.takes, [none]) := by
  cases r with
  | nm o n l => cases o <;> rfl
  | jmp o m l => cases o <;> rfl
  | pr o l => cases o <;> rfl
  | bare o l => cases o <;> rfl
  | push v l => rfl
  | copy v l => rfl
  | swap v l => rfl
  | tri v l => rfl
  | label v l => rfl
  | endtry l => rfl
def Row.grows : Row → Int
  | .push _ _ => 1
  | .nm .load _ _ => 1
  | .nm .quick _ _ => 1
  | .copy _ _ => 1
  | .pr _ _ => -1
  | .nm .store _ _ => -1
  | .bare .drop _ => -1
  | .bare .tell _ => -1
  | _ => 0
theorem grows_ok (r : Row) : f_grows [some r.d] = some (.int r.grows, [none]) := by
  cases r with
  | nm o n l => cases o <;> rfl
  | jmp o m l => cases o <;> rfl
  | pr o l => cases o <;> rfl
  | bare o l => cases o <;> rfl
  | push v l => rfl
  | copy v l => rfl
  | swap v l => rfl
  | tri v l => rfl
  | label v l => rfl
  | endtry l => rfl
section
variable {ρ : En} {i n : Nat} {d : D} {a b : MS} {m m2 : M} {ma : MA} {mt mt2 : MT} {ks : List Ak} {op : List D → Option D} {g : MG}
def kVar (ρ : En) : Option D → Option (D × En)
  | some d => some (d, ρ)
  | none => none
@[simp] theorem kVar_some : kVar ρ (some d) = some (d, ρ) := rfl
theorem slotM {α : Type} {f : D → Option α} : (match ρ[i]? with | some (some d) => f d | _ => none) = (at? ρ i).bind f := by
  unfold at?
  cases h : ρ[i]? with
  | none => rfl
  | some o => cases o <;> rfl
theorem v_var : mVar i ρ = (at? ρ i).bind fun d => some (d, ρ) := slotM
theorem v_mv : mMv i ρ = (at? ρ i).bind fun d => some (d, ρ.set i none) := slotM
theorem v_br : mBr i ρ = (at? ρ i).bind fun _ => some (.none, ρ) := slotM
theorem v_C : mC d ρ = some (d, ρ) := rfl
theorem v_aNil : maNil ρ = some ([], ρ) := rfl
theorem v_aCons : maCons m ma ρ = (m ρ).bind fun p => (ma p.2).bind fun q => some (p.1 :: q.1, q.2) := rfl
theorem v_op : mOp ks ma op ρ = (ma ρ).bind fun p => (fill ks p.1 p.2).bind fun ds => (op ds).bind fun d => some (d, p.2) := by
  unfold mOp
  simp only [Option.map_eq_bind]
  try rfl
theorem v_m1 {k : Ak} : m1 k m op ρ = (m ρ).bind fun p => (fill [k] [p.1] p.2).bind fun ds => (op ds).bind fun d => some (d, p.2) := by
  unfold m1
  rw [v_op, v_aCons]
  simp only [v_aNil, Option.bind_assoc, Option.bind_some]
theorem v_m2 {k k2 : Ak} : DL.m2 k k2 m m2 op ρ = (m ρ).bind fun p => (m2 p.2).bind fun q => (fill [k, k2] [p.1, q.1] q.2).bind fun ds => (op ds).bind fun d => some (d, q.2) := by
  unfold DL.m2
  rw [v_op, v_aCons]
  simp only [v_aNil, v_aCons, Option.bind_assoc, Option.bind_some]
def kTr (p : D × En) : Option (Bool × En) := match p.1 with
  | .bool b => some (b, p.2)
  | _ => none
@[simp] theorem kTr_b {b : Bool} : kTr (.bool b, ρ) = some (b, ρ) := rfl
theorem v_tr : mTr m ρ = (m ρ).bind kTr := rfl
theorem v_and : mAnd mt mt2 ρ = (mt ρ).bind fun p => if p.1 = true then mt2 p.2 else some (false, p.2) := rfl
theorem v_or : mOr mt mt2 ρ = (mt ρ).bind fun p => if p.1 = true then some (true, p.2) else mt2 p.2 := rfl
theorem v_not : mNot mt ρ = (mt ρ).bind fun p => some (!p.1, p.2) := Option.map_eq_bind ..
theorem v_andV : mAndV m m2 ρ = (mTr m ρ).bind fun p => if p.1 = true then m2 p.2 else some (.bool false, p.2) := rfl
theorem v_orV : mOrV m m2 ρ = (mTr m ρ).bind fun p => if p.1 = true then some (.bool true, p.2) else m2 p.2 := rfl
theorem v_notV : mNotV m ρ = (mTr m ρ).bind fun p => some (.bool (!p.1), p.2) := Option.map_eq_bind ..
theorem v_if : mIf mt m m2 ρ = (mt ρ).bind fun p => if p.1 = true then m p.2 else m2 p.2 := rfl
theorem v_tup : mTup ma ρ = (ma ρ).bind fun p => some (.tuple p.1, p.2) := Option.map_eq_bind ..
theorem v_lst : mLst ma ρ = (ma ρ).bind fun p => some (.list p.1, p.2) := Option.map_eq_bind ..
def kSeq (b : MS) (p : Fl × En) : Option (Fl × En) := match p.1 with
  | .nx => b p.2
  | f => some (f, p.2)
@[simp] theorem kSeq_nx : kSeq b (.nx, ρ) = b ρ := rfl
@[simp] theorem kSeq_rt : kSeq b (.rt d, ρ) = some (.rt d, ρ) := rfl
@[simp] theorem kSeq_bk : kSeq b (.bk, ρ) = some (.bk, ρ) := rfl
@[simp] theorem kSeq_ct : kSeq b (.ct, ρ) = some (.ct, ρ) := rfl
theorem v_seq : mSeq a b ρ = (a ρ).bind (kSeq b) := rfl
theorem v_skip : mSkip ρ = some (.nx, ρ) := rfl
theorem v_break : mBreak ρ = some (.bk, ρ) := rfl
theorem v_cont : mCont ρ = some (.ct, ρ) := rfl
theorem v_drop : mDrop m ρ = (m ρ).bind fun p => some (.nx, p.2) := Option.map_eq_bind ..
theorem v_ret : mRet m ρ = (m ρ).bind fun p => some (.rt p.1, p.2) := Option.map_eq_bind ..
theorem v_ite : mIte mt a b ρ = (mt ρ).bind fun p => if p.1 = true then a p.2 else b p.2 := rfl
theorem v_set : mSet i m ρ = (m ρ).bind fun p => some (.nx, p.2.set i (some p.1)) := Option.map_eq_bind ..
theorem v_fz : mFz i a ρ = (a ρ).bind fun p => some (p.1, p.2.set i none) := Option.map_eq_bind ..
theorem v_th : mTh i a ρ = (a (ρ.set i none)).bind fun p => some (p.1, p.2.set i none) := Option.map_eq_bind ..
theorem v_asg : mAsg g m ρ = (m ρ).bind fun p => (g p.1 p.2).bind fun ρ' => some (.nx, ρ') := by
  show (m ρ).bind _ = _
  simp only [Option.map_eq_bind]
  try rfl
theorem v_aug : mAug i m op ρ = (at? ρ i).bind fun d => (m ρ).bind fun p => (op [d, p.1]).bind fun z => some (.nx, p.2.set i (some z)) := by
  unfold mAug
  simp only [Option.map_eq_bind]
  exact slotM
theorem v_call {mf : En → Option (D × En)} {dd : List D} : mCall mf ks dd ma ρ = (ma ρ).bind fun p => (fill ks p.1 p.2).bind fun ds => (mf ((ds ++ dd).map some)).bind fun z => some (z.1, putB ks z.2 p.2) := rfl
def kFun (Oi : List Kd) (r : Ak) (p : Fl × En) : Option (D × En) := match p.1 with
  | .rt d => some (d, outE Oi p.2)
  | .nx => (match r with
    | .fz => some (.none, outE Oi p.2)
    | _ => none)
  | _ => none
@[simp] theorem kFun_rt {Oi : List Kd} {r : Ak} : kFun Oi r (.rt d, ρ) = some (d, outE Oi ρ) := rfl
@[simp] theorem kFun_nx {Oi : List Kd} : kFun Oi .fz (.nx, ρ) = some (.none, outE Oi ρ) := rfl
theorem v_fun {Oi : List Kd} {r : Ak} : mFun Oi n r a ρ = (a (ρ ++ List.replicate n none)).bind (kFun Oi r) := rfl
theorem v_mut {T : String} {op : D → List D → Option (D × D)} : mMut i T ma op ρ = (at? ρ i).bind fun d1 => if isTy T d1 = true then (ma ρ).bind fun q => (at? q.2 i).bind fun d0 => (op d0 q.1).bind fun z => some (z.1, q.2.set i (some z.2)) else none := by
  unfold mMut
  simp only [Option.map_eq_bind]
  refine slotM.trans ?_
  congr 1
  funext d1
  by_cases h : isTy T d1 = true
  · rw [if_pos h, if_pos h]
    congr 1
    funext q
    exact slotM
  · rw [if_neg h, if_neg h]
theorem v_no : mNo ρ = some (none, ρ) := rfl
def kPt (p : D × En) : Option (Option Int × En) := match p.1 with
  | .int i => some (some i, p.2)
  | _ => none
@[simp] theorem kPt_i {j : Int} : kPt (.int j, ρ) = some (some j, ρ) := rfl
theorem v_pt : mPt m ρ = (m ρ).bind kPt := rfl
def kSl (f : D → Option D) (ρ : En) : List D → Option (D × En)
  | [d] => (f d).bind fun y => some (y, ρ)
  | _ => none
@[simp] theorem kSl_1 {f : D → Option D} : kSl f ρ [d] = (f d).bind fun y => some (y, ρ) := rfl
theorem v_sl {ka : Ak} {lo hi : MO} {op : D → Option Int → Option Int → Option D} : mSl ka m lo hi op ρ = (m ρ).bind fun p => (lo p.2).bind fun q => (hi q.2).bind fun z => (fill [ka] [p.1] z.2).bind (kSl (fun d => op d q.1 z.1) z.2) := by
  unfold mSl
  simp only [Option.map_eq_bind]
  congr 1
def kCh (f g : Int → Int → Bool) (mc : M) (x : D) (p : D × En) : Option (D × En) := match x, p.1 with
  | .int i, .int j => if f i j = true then (mc p.2).bind fun z => (match z.1 with
      | .int n => some (.bool (g j n), z.2)
      | _ => none)
    else some (.bool false, p.2)
  | _, _ => none
def kCh2 (g : Int → Int → Bool) (j : Int) (z : D × En) : Option (D × En) := match z.1 with
  | .int n => some (.bool (g j n), z.2)
  | _ => none
@[simp] theorem kCh2_i {g : Int → Int → Bool} {j k : Int} : kCh2 g j (.int k, ρ) = some (.bool (g j k), ρ) := rfl
@[simp] theorem kCh_i {f g : Int → Int → Bool} {mc : M} {i j : Int} : kCh f g mc (.int i) (.int j, ρ) = if f i j = true then (mc ρ).bind (kCh2 g j) else some (.bool false, ρ) := rfl
theorem v_chain {f g : Int → Int → Bool} {mb mc : M} : mChain f g m mb mc ρ = (m ρ).bind fun p => (mb p.2).bind (kCh f g mc p.1) := rfl
def kItL (p : D × En) : Option (List D × En) := match p.1 with
  | .list ds => some (ds, p.2)
  | _ => none
@[simp] theorem kItL_l {ds : List D} : kItL (.list ds, ρ) = some (ds, ρ) := rfl
theorem v_itL : mItL m ρ = (m ρ).bind kItL := rfl
@[simp] theorem outE_fz {ks : List Kd} {x : Option D} : outE (.fz :: ks) (x :: ρ) = none :: outE ks ρ := rfl
@[simp] theorem outE_io {ks : List Kd} {x : Option D} : outE (.io :: ks) (x :: ρ) = x :: outE ks ρ := rfl
theorem v_for {mi : MI} : mFor mi g a ρ = (mi ρ).bind fun p => mForL p.1 g a p.2 := rfl
theorem v_lc {mi : MI} {vs : List Nat} : mLc mi g mt m vs ρ = (mi ρ).bind fun p => (mLcL p.1 g mt m vs [] p.2).bind fun q => some (.list q.1, restE p.2 vs q.2) := by
  unfold mLc
  simp only [Option.map_eq_bind]
  try rfl
end
local macro_rules | `(tactic| exists $es,*) => `(tactic| simp only [v_var, v_mv, v_br, v_C, v_aNil, v_aCons, v_op, v_m1, v_m2, v_tr, v_and, v_or, v_not, v_andV, v_orV, v_notV, v_if, v_tup, v_lst, v_seq, v_skip, v_break, v_cont, v_drop, v_ret, v_ite, v_set, v_fz, v_th, v_asg, v_aug, v_call, v_fun, v_mut, v_no, v_pt, v_sl, v_chain, v_itL, v_for, v_lc,
  kTr_b, kSeq_nx, kSeq_rt, kSeq_bk, kSeq_ct, kFun_rt, kFun_nx, kPt_i, kSl_1, kCh_i, kCh2_i, kItL_l, Option.bind_some, Option.bind_none, at_zero, at_succ, at_nil, fill_nil, fill_fz, fill_ow, fill_br, Option.map_some, List.set_cons_zero, List.set_cons_succ, List.set_nil, List.map_cons, List.map_nil, List.cons_append, List.nil_append, List.append_nil, List.replicate_succ, List.replicate_zero, putB_nil, putB_br, putB_fz, putB_ow, outE_nil, outE_fz, outE_io, mgN_e, mgNil_e, mgCons_e, mgT_e, mgL_e, List.length_cons, List.length_nil, if_true, if_false, reduceIte, Bool.false_eq_true, Bool.not_true, Bool.not_false, decide_true, decide_false, dSub_i, dAdd_i, dAddU_i, dLt_i, dLe_i, dGt_i, dGe_i, dNeg_i, $[$es:term],*])
structure St where
  d : Int
  g : List (Nat × Int)
  deriving DecidableEq
abbrev gD (p : Nat × Int) : D := .tuple [dN p.1, .int p.2]
def gsD (g : List (Nat × Int)) : List D := g.reverse.map gD
def St.D (s : St) : D := .tuple [.int s.d, .tuple (gsD s.g)]
def whD (w : List (Nat × Nat)) : D := .dict (w.map fun p => (dN p.1, dN p.2))
def Row.op : Row → Str
  | .push _ _ => "push"
  | .nm o _ _ => o.s
  | .copy _ _ => "copy"
  | .swap _ _ => "swap"
  | .jmp o _ _ => o.s
  | .tri _ _ => "try"
  | .label _ _ => "label"
  | .pr o _ => o.s
  | .bare o _ => o.s
  | .endtry _ => "endtry"
def Row.arg : Row → D
  | .push v _ => v.d
  | .nm _ n _ => .str n
  | .copy n _ => dN n
  | .swap n _ => dN n
  | .jmp _ m _ => dN m
  | .tri m _ => dN m
  | .label m _ => dN m
  | .pr _ _ => .none
  | .bare _ _ => .none
  | .endtry _ => .none
def Row.line : Row → Nat
  | .push _ l => l
  | .nm _ _ l => l
  | .copy _ l => l
  | .swap _ l => l
  | .jmp _ _ l => l
  | .tri _ l => l
  | .label _ l => l
  | .pr _ l => l
  | .bare _ l => l
  | .endtry l => l
theorem Row.d_eq (r : Row) : r.d = .tuple [.str r.op, r.arg, dN r.line] := by cases r <;> rfl
section
variable {ρ : En} (r : Row) {i j k : Nat}
theorem row_0 : dIxU [r.d, .int 0] = some (.str r.op) := by
  rw [Row.d_eq]
  rfl
theorem row_1 : dIxU [r.d, .int 1] = some r.arg := by
  rw [Row.d_eq]
  rfl
theorem row_2 : dIxU [r.d, .int 2] = some (dN r.line) := by
  rw [Row.d_eq]
  rfl
theorem row_3 : mgT 3 (mgCons (mgN i) (mgCons (mgN j) (mgCons (mgN k) mgNil))) r.d ρ = some (((ρ.set i (some (.str r.op))).set j (some r.arg)).set k (some (dN r.line))) := by
  rw [Row.d_eq]
  rfl
end
def Row.isJump : Row → Bool
  | .jmp .jump _ _ => true
  | _ => false
def Row.isBranch : Row → Bool
  | .jmp .jump _ _ => false
  | .jmp _ _ _ => true
  | _ => false
def Row.isIf : Row → Bool
  | .jmp .iftrue _ _ => true
  | .jmp .iffalse _ _ => true
  | _ => false
def Row.isTri : Row → Bool
  | .tri _ _ => true
  | _ => false
def Row.isEndtry : Row → Bool
  | .endtry _ => true
  | _ => false
def Row.isEnd : Row → Bool
  | .bare .ret _ => true
  | .bare .rais _ => true
  | _ => false
def Row.isCopy : Row → Bool
  | .copy _ _ => true
  | _ => false
def Row.isFaulty : Row → Bool
  | .nm .load _ _ => true
  | .nm .clear _ _ => true
  | .pr .same _ => false
  | .pr _ _ => true
  | .bare .neg _ => true
  | .bare .rais _ => true
  | _ => false
section
variable {r : Row}
theorem o_jump : dEqU [.str r.op, .str "jump"] = some (.bool r.isJump) := by
  cases r with
  | nm o n l => cases o <;> kernel_rfl
  | jmp o m l => cases o <;> kernel_rfl
  | pr o l => cases o <;> kernel_rfl
  | bare o l => cases o <;> kernel_rfl
  | _ => kernel_rfl
theorem o_branch : dInU [.str r.op, .tuple [(.str "iftrue"), (.str "iffalse"), (.str "ortrue"), (.str "orfalse")]] = some (.bool r.isBranch) := by
  cases r with
  | nm o n l => cases o <;> kernel_rfl
  | jmp o m l => cases o <;> kernel_rfl
  | pr o l => cases o <;> kernel_rfl
  | bare o l => cases o <;> kernel_rfl
  | _ => kernel_rfl
theorem o_if : dInU [.str r.op, .tuple [(.str "iftrue"), (.str "iffalse")]] = some (.bool r.isIf) := by
  cases r with
  | nm o n l => cases o <;> kernel_rfl
  | jmp o m l => cases o <;> kernel_rfl
  | pr o l => cases o <;> kernel_rfl
  | bare o l => cases o <;> kernel_rfl
  | _ => kernel_rfl
theorem o_try : dEqU [.str r.op, .str "try"] = some (.bool r.isTri) := by
  cases r with
  | nm o n l => cases o <;> kernel_rfl
  | jmp o m l => cases o <;> kernel_rfl
  | pr o l => cases o <;> kernel_rfl
  | bare o l => cases o <;> kernel_rfl
  | _ => kernel_rfl
theorem o_endtry : dEqU [.str r.op, .str "endtry"] = some (.bool r.isEndtry) := by
  cases r with
  | nm o n l => cases o <;> kernel_rfl
  | jmp o m l => cases o <;> kernel_rfl
  | pr o l => cases o <;> kernel_rfl
  | bare o l => cases o <;> kernel_rfl
  | _ => kernel_rfl
theorem o_end : dInU [.str r.op, .tuple [(.str "return"), (.str "raise")]] = some (.bool r.isEnd) := by
  cases r with
  | nm o n l => cases o <;> kernel_rfl
  | jmp o m l => cases o <;> kernel_rfl
  | pr o l => cases o <;> kernel_rfl
  | bare o l => cases o <;> kernel_rfl
  | _ => kernel_rfl
theorem o_ncopy : dNeU [.str r.op, .str "copy"] = some (.bool (!r.isCopy)) := by
  cases r with
  | nm o n l => cases o <;> kernel_rfl
  | jmp o m l => cases o <;> kernel_rfl
  | pr o l => cases o <;> kernel_rfl
  | bare o l => cases o <;> kernel_rfl
  | _ => kernel_rfl
theorem o_faulty : dInU [.str r.op, .tuple [(.str "load"), (.str "clear"), (.str "add"), (.str "sub"), (.str "mul"), (.str "div"), (.str "rest"), (.str "less"), (.str "neg"), (.str "raise")]] = some (.bool r.isFaulty) := by
  cases r with
  | nm o n l => cases o <;> kernel_rfl
  | jmp o m l => cases o <;> kernel_rfl
  | pr o l => cases o <;> kernel_rfl
  | bare o l => cases o <;> kernel_rfl
  | _ => kernel_rfl
end
theorem gsD_cons {x : Nat × Int} {g : List (Nat × Int)} : gsD (x :: g) = gsD g ++ [gD x] := by
  unfold gsD
  rw [List.reverse_cons, List.map_append]
  rfl
theorem atI_last {α : Type} {xs : List α} {x : α} : atI (xs ++ [x]) (-1) = some x := by
  unfold atI ixN
  rw [if_neg (by omega), if_pos (by rw [List.length_append, List.length_singleton]; omega)]
  show (xs ++ [x])[_]? = _
  rw [List.length_append, List.length_singleton, show ((-1 : Int) + ((xs.length + 1 : Nat) : Int)).toNat = xs.length by omega, List.getElem?_append_right (Nat.le_refl _), Nat.sub_self]
  rfl
theorem cutG_init {α : Type} {xs : List α} {x : α} : cutG (xs ++ [x]) none (some (-1)) = xs := by
  show ((xs ++ [x]).drop 0).take ((if (-1 : Int) < 0 then (-1 + ((xs ++ [x]).length : Int)).toNat else min (-1 : Int).toNat (xs ++ [x]).length) - 0) = _
  rw [if_pos (by omega), List.length_append, List.length_singleton, List.drop_zero, show ((-1 : Int) + ((xs.length + 1 : Nat) : Int)).toNat - 0 = xs.length by omega, List.take_left]
theorem eq0_gD {p : Nat × Int} : Eq0 1 (gD p) := .tuple fun d m => by
  rcases List.mem_cons.mp m with rfl | m
  · exact .int
  · rcases List.mem_cons.mp m with rfl | m
    · exact .int
    · cases m
theorem eq0_gs {g : List (Nat × Int)} : Eq0 2 (.tuple (gsD g)) := .tuple fun d m => by
  obtain ⟨p, _, rfl⟩ := List.mem_map.mp m
  exact eq0_gD
theorem eq0_nilT : Eq0 1 (.tuple []) := .tuple fun d m => by cases m
theorem dEq_of {a b : D} {n m : Nat} (ha : Eq0 n a) (hb : Eq0 m b) (hn : n ≤ 64 := by decide) (hm : m ≤ 64 := by decide) : dEqU [a, b] = some (.bool (PyData.eqv a b)) := by
  refine orD_l ?_
  unfold dEq
  dsimp only
  rw [ha.ok hn, hb.ok hm, if_pos (by decide)]
theorem dNe_of {a b : D} {n m : Nat} (ha : Eq0 n a) (hb : Eq0 m b) (hn : n ≤ 64 := by decide) (hm : m ≤ 64 := by decide) : dNeU [a, b] = some (.bool (!PyData.eqv a b)) := by
  refine orD_l ?_
  unfold dNe
  dsimp only
  rw [ha.ok hn, hb.ok hm, if_pos (by decide)]
theorem gs_eqv {g : List (Nat × Int)} : PyData.eqv (.tuple (gsD g)) (.tuple []) = g.isEmpty := by
  cases g with
  | nil => rfl
  | cons x g =>
    rw [gsD_cons]
    cases gsD g <;> rfl
theorem dEq_gs {g : List (Nat × Int)} : dEqU [.tuple (gsD g), .tuple []] = some (.bool g.isEmpty) := by rw [dEq_of eq0_gs eq0_nilT, gs_eqv]
theorem dNe_gs {g : List (Nat × Int)} : dNeU [.tuple (gsD g), .tuple []] = some (.bool (!g.isEmpty)) := by rw [dNe_of eq0_gs eq0_nilT, gs_eqv]
theorem ix_gs {x : Nat × Int} {g : List (Nat × Int)} : dIxU [.tuple (gsD (x :: g)), .int (-1)] = some (gD x) := by rw [dIxU_t, gsD_cons, atI_last]
theorem sl_gs {g : List (Nat × Int)} : dSlU (.tuple (gsD g)) none (some (-1)) = some (.tuple (gsD g.tail)) := by
  cases g with
  | nil => rfl
  | cons x g =>
    show some (PyData.tuple (cutG (gsD (x :: g)) none (some (-1)))) = _
    rw [gsD_cons, cutG_init]
    rfl
section
variable {ρ : En} (s : St) {i j : Nat}
theorem st_0 : dIxU [s.D, .int 0] = some (.int s.d) := rfl
theorem st_1 : dIxU [s.D, .int 1] = some (.tuple (gsD s.g)) := rfl
theorem st_2 : mgT 2 (mgCons (mgN i) (mgCons (mgN j) mgNil)) s.D ρ = some ((ρ.set i (some (.int s.d))).set j (some (.tuple (gsD s.g)))) := rfl
end
theorem getD_wh {m : Nat} : ∀ {w : List (Nat × Nat)}, getD' (.inl (m : Int)) (w.map fun p => (dN p.1, dN p.2)) = (w.lookup m).map dN
  | [] => rfl
  | p :: w => by
    rw [List.map_cons, List.lookup_cons]
    show (if dKey (dN p.1) = some (.inl (m : Int)) then some (dN p.2) else getD' _ _) = _
    by_cases h : m = p.1
    · subst h
      rw [beq_self_eq_true]
      exact if_pos rfl
    · rw [if_neg (fun z => h (by have z : some (Sum.inl (p.1 : Int) : Key) = some (.inl (m : Int)) := z; injection z with z; injection z with z; omega)), show (m == p.1) = false from beq_eq_false_iff_ne.mpr h]
      exact getD_wh
theorem ix_wh {w : List (Nat × Nat)} {m : Nat} : dIxU [whD w, dN m] = (w.lookup m).map dN := by
  refine (orD_r rfl).trans ?_
  exact (gob_ok (by cases w <;> rfl)).trans getD_wh
def Row.mark : Row → Nat
  | .jmp _ m _ => m
  | .tri m _ => m
  | .label m _ => m
  | _ => 0
def plainNext (w : List (Nat × Nat)) (r : Row) (at_ : Nat) (s : St) : Option (List (Nat × St)) :=
  if r.isJump = true then (w.lookup r.mark).map fun p => [(p, s)]
  else if r.isBranch = true then (w.lookup r.mark).map fun p => [(at_ + 1, ⟨s.d - 1, s.g⟩), (p, ⟨s.d - (if r.isIf then 1 else 0), s.g⟩)]
  else if r.isTri = true then some [(at_ + 1, ⟨s.d, (r.mark, s.d) :: s.g⟩)]
  else if r.isEndtry = true then some [(at_ + 1, ⟨s.d, s.g.tail⟩)]
  else if r.isEnd = true then some []
  else some [(at_ + 1, ⟨s.d + r.grows, s.g⟩)]
def allNext (w : List (Nat × Nat)) (r : Row) (at_ : Nat) (s : St) : Option (List (Nat × St)) :=
  (plainNext w r at_ s).bind fun l => match s.g with
    | [] => some l
    | x :: g => if r.isFaulty = true then (w.lookup x.1).map fun p => l ++ [(p, ⟨x.2 + 1, g⟩)] else some l
theorem dAppend_eq {ds : List D} {d : D} (h : ds.length < 1000000) : dAppend (.list ds) [d] = some (.none, .list (ds ++ [d])) := dAppend_l.mpr ⟨h, rfl, rfl⟩
local macro_rules | `(tactic| exists $es,*) => `(tactic| simp only [v_var, v_mv, v_br, v_C, v_aNil, v_aCons, v_op, v_m1, v_m2, v_tr, v_and, v_or, v_not, v_andV, v_orV, v_notV, v_if, v_tup, v_lst, v_seq, v_skip, v_break, v_cont, v_drop, v_ret, v_ite, v_set, v_fz, v_th, v_asg, v_aug, v_call, v_fun, v_mut, v_no, v_pt, v_sl, v_chain, v_itL, v_for, v_lc, v_itU, v_it2, v_dc,
  kTr_b, kSeq_nx, kSeq_rt, kSeq_bk, kSeq_ct, kFun_rt, kFun_nx, kPt_i, kSl_1, kCh_i, kCh2_i, kItL_l, kItU_l, kItU_t, kItU_s, Option.bind_some, Option.bind_none, at_zero, at_succ, at_nil, fill_nil, fill_fz, fill_ow, fill_br, Option.map_some, List.set_cons_zero, List.set_cons_succ, List.set_nil, List.map_cons, List.map_nil, List.cons_append, List.nil_append, List.append_nil, List.replicate_succ, List.replicate_zero, putB_nil, putB_br, putB_fz, putB_ow, outE_nil, outE_fz, outE_io, mgN_e, mgNil_e, mgCons_e, mgT_e, mgL_e, List.length_cons, List.length_nil, if_true, if_false, reduceIte, Bool.false_eq_true, Bool.not_true, Bool.not_false, decide_true, decide_false, dSub_i, dAdd_i, dAddU_i, dLt_i, dLe_i, dGt_i, dGe_i, dNeg_i, $[$es:term],*])
section
variable {ρ : En} {g : MG} {m mk : M} {mt : MT} {ma : MA} {ks : List Ak}
def kItU (p : D × En) : Option (List D × En) := match p.1 with
  | .list ds => some (ds, p.2)
  | .tuple ds => some (ds, p.2)
  | .str x => some (signs x, p.2)
  | _ => none
@[simp] theorem kItU_l {ds : List D} : kItU (.list ds, ρ) = some (ds, ρ) := rfl
@[simp] theorem kItU_t {ds : List D} : kItU (.tuple ds, ρ) = some (ds, ρ) := rfl
@[simp] theorem kItU_s {x : Str} : kItU (.str x, ρ) = some (signs x, ρ) := rfl
theorem v_itU : mItU m ρ = (m ρ).bind kItU := rfl
theorem v_it2 {f : List D → Option (List D)} : mIt2 ks ma f ρ = (ma ρ).bind fun p => (fill ks p.1 p.2).bind fun ds => (f ds).bind fun r => some (r, p.2) := by
  unfold mIt2
  simp only [Option.map_eq_bind]
  try rfl
theorem v_dc {mi : MI} {vs : List Nat} : mDc mi g mt mk m vs ρ = (mi ρ).bind fun p => (mDcL p.1 g mt mk m vs [] p.2).bind fun q => some (.dict q.1, restE p.2 vs q.2) := by
  unfold mDc
  simp only [Option.map_eq_bind]
  try rfl
end
section
variable {τ : Type} {u : τ → D} {ρ : En} {g : MG} {e mk : M} {t : MT} {vs : List Nat}
theorem lcF_eq {F : τ → Option D} {xs : List τ} (hl : xs.length ≤ 1000000) (hs : ∀ x, x ∈ xs → ∃ ρ1, g (u x) (wipeE ρ vs) = some ρ1 ∧ ∃ b ρ2, t ρ1 = some (b, ρ2) ∧ if b = true then ∃ y ρ3, e ρ2 = some (y, ρ3) ∧ F x = some y ∧ wipeE ρ3 vs = wipeE ρ vs else F x = none ∧ wipeE ρ2 vs = wipeE ρ vs) :
    ((mLcL (xs.map u) g t e vs [] ρ).bind fun q => some (PyData.list q.1, restE ρ vs q.2)) = some (.list (xs.filterMap F), ρ) := by
  obtain ⟨ρ', h1, h2⟩ := lcL (acc := []) (ρ := ρ) (xs := xs) (u := u) (F := F) (g := g) (t := t) (e := e) (vs := vs) rfl (fun x m => by
    obtain ⟨ρ1, e1, b, ρ2, e2, q⟩ := hs x m
    refine ⟨ρ1, e1, b, ρ2, e2, ?_⟩
    split at q
    · rename_i hb
      rw [if_pos hb]
      obtain ⟨y, ρ3, q1, q2, q3⟩ := q
      exact ⟨y, ρ3, q1, q2, q3⟩
    · rename_i hb
      rw [if_neg hb]
      exact q) (by rw [List.length_nil]; omega)
  rw [h1]
  show some (PyData.list _, restE ρ vs ρ') = _
  rw [rest_same h2]
  rfl
theorem lcM_eq {F : τ → D} {xs : List τ} (hl : xs.length ≤ 1000000) (hs : ∀ x, x ∈ xs → ∃ ρ1, g (u x) (wipeE ρ vs) = some ρ1 ∧ ∃ ρ3, e ρ1 = some (F x, ρ3) ∧ wipeE ρ3 vs = wipeE ρ vs) :
    ((mLcL (xs.map u) g mYes e vs [] ρ).bind fun q => some (PyData.list q.1, restE ρ vs q.2)) = some (.list (xs.map F), ρ) := by
  rw [lcF_eq (F := fun x => some (F x)) hl fun x m => ?_, List.filterMap_eq_map']
  obtain ⟨ρ1, e1, ρ3, e2, e3⟩ := hs x m
  exact ⟨ρ1, e1, true, ρ1, rfl, by rw [if_pos rfl]; exact ⟨_, ρ3, e2, rfl, e3⟩⟩
end
theorem dAll_f {τ : Type} {f : τ → Bool} {xs : List τ} : dAll [.list (xs.map fun x => PyData.bool (f x))] = some (.bool (xs.all f)) := by
  have h := dAll_b (bs := xs.map f)
  rw [List.map_map, List.all_map] at h
  exact h
def enumF {τ : Type} : Nat → List τ → List (Nat × τ)
  | _, [] => []
  | k, x :: xs => (k, x) :: enumF (k + 1) xs
theorem enumF_len {τ : Type} : ∀ {k : Nat} {xs : List τ}, (enumF k xs).length = xs.length
  | _, [] => rfl
  | k, x :: xs => congrArg Nat.succ enumF_len
theorem enumF_get {τ : Type} : ∀ {k i : Nat} {xs : List τ}, (enumF k xs)[i]? = (xs[i]?).map fun x => (k + i, x)
  | _, _, [] => rfl
  | k, 0, x :: xs => rfl
  | k, i + 1, x :: xs => by
    show (enumF (k + 1) xs)[i]? = (xs[i]?).map _
    rw [enumF_get, show k + 1 + i = k + (i + 1) by omega]
theorem enumF_mem {τ : Type} {p : Nat × τ} {xs : List τ} : p ∈ enumF 0 xs ↔ xs[p.1]? = some p.2 := by
  rw [List.mem_iff_getElem?]
  constructor
  · rintro ⟨i, h⟩
    rw [enumF_get] at h
    obtain ⟨x, h1, h2⟩ := Option.map_eq_some_iff.mp h
    rw [← h2]
    show xs[0 + i]? = some x
    rw [Nat.zero_add]
    exact h1
  · intro h
    refine ⟨p.1, ?_⟩
    rw [enumF_get, h, Nat.zero_add]
    rfl
theorem enumD_map {τ : Type} {u : τ → D} {xs : List τ} : enumD (xs.map u) = (enumF 0 xs).map fun p => PyData.tuple [dN p.1, u p.2] := by
  have main : ∀ (xs : List τ) (k : Nat), zipD ((List.range' k xs.length).map fun (i : Nat) => PyData.int (i : Int)) (xs.map u) = (enumF k xs).map fun p => PyData.tuple [dN p.1, u p.2] := fun xs => by
    induction xs with
    | nil => intro k; rfl
    | cons x xs ih =>
      intro k
      show zipD ((k :: List.range' (k + 1) xs.length).map _) (u x :: xs.map u) = _
      show PyData.tuple [PyData.int (k : Int), u x] :: zipD ((List.range' (k + 1) xs.length).map fun (i : Nat) => PyData.int (i : Int)) (xs.map u) = _
      rw [ih (k + 1)]
      rfl
  unfold enumD
  rw [List.length_map, List.range_eq_range']
  exact main xs 0
theorem dEnum_map {τ : Type} {u : τ → D} {xs : List τ} : dEnum [.list (xs.map u)] = some ((enumF 0 xs).map fun p => PyData.tuple [dN p.1, u p.2]) := congrArg some enumD_map
inductive LR (S R : Type) where
  | go (s : S)
  | out (r : R)
abbrev lrP {S R : Type} (P : S → Prop) (Q : R → Prop) : LR S R → Prop
  | .go s => P s
  | .out r => Q r
def runL {S R τ : Type} (step : S → τ → Option (LR S R)) : List τ → S → Option (LR S R)
  | [], s => some (.go s)
  | x :: xs, s => (step s x).bind fun z => match z with
    | .go s' => runL step xs s'
    | .out r => some (.out r)
theorem forL_run {τ S R J : Type} {u : τ → D} {E : J → S → En} {O : R → D → En → Prop} {step : S → τ → Option (LR S R)} {g : MG} {b : MS} : ∀ {xs : List τ},
    (∀ j s x z, x ∈ xs → step s x = some z → ∃ ρ1, g (u x) (E j s) = some ρ1 ∧ lrP (fun s' => ∃ j', b ρ1 = some (.nx, E j' s') ∨ b ρ1 = some (.ct, E j' s')) (fun r => ∃ d ρ2, b ρ1 = some (.rt d, ρ2) ∧ O r d ρ2) z) →
    ∀ {j s z}, runL step xs s = some z → lrP (fun s' => ∃ j', mForL (xs.map u) g b (E j s) = some (.nx, E j' s')) (fun r => ∃ d ρ2, mForL (xs.map u) g b (E j s) = some (.rt d, ρ2) ∧ O r d ρ2) z
  | [], _, j, s, z, h => by
    cases h
    exact ⟨j, rfl⟩
  | x :: xs, hs, j, s, z, h => by
    obtain ⟨y, h1, h2⟩ := Option.bind_eq_some_iff.mp h
    obtain ⟨ρ1, e1, e2⟩ := hs j s x y List.mem_cons_self h1
    have un : ∀ f ρ2, b ρ1 = some (f, ρ2) → mForL ((x :: xs).map u) g b (E j s) = (match f with
      | .nx => mForL (xs.map u) g b ρ2
      | .ct => mForL (xs.map u) g b ρ2
      | .bk => some (.nx, ρ2)
      | .rt d => some (.rt d, ρ2)) := fun f ρ2 e => by
      show (g (u x) (E j s)).bind _ = _
      rw [e1]
      show (b ρ1).bind _ = _
      rw [e]
      rfl
    cases y with
    | go s' =>
      obtain ⟨j', e3⟩ := e2
      have ih := forL_run (fun j s x z m => hs j s x z (List.mem_cons_of_mem _ m)) (j := j') h2
      rcases e3 with e3 | e3
      · rw [un _ _ e3]
        exact ih
      · rw [un _ _ e3]
        exact ih
    | out r =>
      cases h2
      obtain ⟨d, ρ2, e3, e4⟩ := e2
      exact ⟨d, ρ2, un _ _ e3, e4⟩
inductive WR (S R : Type) where
  | go (s : S)
  | stop (s : S)
  | out (r : R)
abbrev wrP {S R : Type} (P P2 : S → Prop) (Q : R → Prop) : WR S R → Prop
  | .go s => P s
  | .stop s => P2 s
  | .out r => Q r
def runW {S R : Type} (step : S → Option (WR S R)) : Nat → S → Option (LR S R)
  | 0, _ => none
  | n + 1, s => (step s).bind fun z => match z with
    | .go s' => runW step n s'
    | .stop s' => some (.go s')
    | .out r => some (.out r)
local macro_rules | `(tactic| exists $es,*) => `(tactic| simp only [v_var, v_mv, v_br, v_C, v_aNil, v_aCons, v_op, v_m1, v_m2, v_tr, v_and, v_or, v_not, v_andV, v_orV, v_notV, v_if, v_tup, v_lst, v_seq, v_skip, v_break, v_cont, v_drop, v_ret, v_ite, v_set, v_fz, v_th, v_asg, v_aug, v_call, v_fun, v_mut, v_no, v_pt, v_sl, v_chain, v_itL, v_for, v_lc, v_itU, v_it2, v_dc,
  kTr_b, kSeq_nx, kSeq_rt, kSeq_bk, kSeq_ct, kFun_rt, kFun_nx, kPt_i, kSl_1, kCh_i, kCh2_i, kItL_l, kItU_l, kItU_t, kItU_s, Option.bind_some, Option.bind_none, at_zero, at_succ, at_nil, fill_nil, fill_fz, fill_ow, fill_br, Option.map_some, List.set_cons_zero, List.set_cons_succ, List.set_nil, List.map_cons, List.map_nil, List.cons_append, List.nil_append, List.append_nil, List.replicate_succ, List.replicate_zero, putB_nil, putB_br, putB_fz, putB_ow, outE_nil, outE_fz, outE_io, mgN_e, mgNil_e, mgCons_e, mgT_e, mgL_e, List.length_cons, List.length_nil, if_true, if_false, reduceIte, Bool.false_eq_true, Bool.not_true, Bool.not_false, decide_true, decide_false, dSub_i, dAdd_i, dAddU_i, dLt_i, dLe_i, dGt_i, dGe_i, dNeg_i, $[$es:term],*])
theorem is_number_i {i a b : Int} : f_is_number [some (.int i), some (.int a), some (.int b)] = some (.bool (decide (a ≤ i) && decide (i ≤ b)), [none, none, none]) := by
  unfold f_is_number m_is_number
  exists dIs_int_i, dIs_bool_i
  by_cases h : a ≤ i
  · exists decide_eq_true h
    rfl
  · exists decide_eq_false h
    rfl
theorem is_number_s {x : Str} {a b : D} : f_is_number [some (.str x), some a, some b] = some (.bool false, [none, none, none]) := rfl
def signsIn (z : Str) (x : Str) : Bool := x.cps.toList.all fun c => decide (c ∈ z.cps.toList)
def nameOk (x : Str) : Bool := decide (1 ≤ x.cps.size ∧ x.cps.size ≤ 4) && signsIn "abcdefghijklmnopqrstuvwxyz" x
def kindOk (x : Str) : Bool := decide (1 ≤ x.cps.size ∧ x.cps.size ≤ 8) && signsIn ("abcdefghijklmnopqrstuvwxyz" ++ "ABCDEFGHIJKLMNOPQRSTUVWXYZ" : Str) x
theorem dLenU_s {x : Str} (hx : x.cps.size ≤ 100000) : dLenU [.str x] = some (.int x.cps.size) := by
  refine orD_l ?_
  show (if x.length ≤ 100000 then some (PyData.int x.length) else none) = _
  rw [if_pos (show x.length ≤ 100000 from hx)]
  rfl
theorem isStr_s {x : Str} : dIs "str" [.str x] = some (.bool true) := rfl
theorem is_name_ok {x : Str} (hx : x.cps.size ≤ 100000) : f_is_name [some (.str x)] = some (.bool (nameOk x), [none]) := by
  unfold f_is_name m_is_name nameOk
  exists isStr_s, dLenU_s hx
  by_cases h1 : (1 : Int) ≤ x.cps.size
  · exists decide_eq_true h1
    by_cases h2 : (x.cps.size : Int) ≤ 4
    · exists decide_eq_true h2
      unfold signs
      rw [lcM_eq (F := fun c => PyData.bool (decide (c ∈ ("abcdefghijklmnopqrstuvwxyz" : Str).cps.toList))) (by rw [Array.length_toList]; omega) fun c _ => ⟨_, rfl, [some (.str x), some (.str ⟨#[c]⟩)], rfl, rfl⟩]
      exists dAll_f
      rw [show decide (1 ≤ x.cps.size ∧ x.cps.size ≤ 4) = true from decide_eq_true ⟨by omega, by omega⟩]
      rfl
    · exists decide_eq_false h2
      rw [show decide (1 ≤ x.cps.size ∧ x.cps.size ≤ 4) = false from decide_eq_false (by omega)]
      rfl
  · exists decide_eq_false h1
    rw [show decide (1 ≤ x.cps.size ∧ x.cps.size ≤ 4) = false from decide_eq_false (by omega)]
    rfl
theorem is_kind_ok {x : Str} (hx : x.cps.size ≤ 100000) : f_is_kind [some (.str x)] = some (.bool (kindOk x), [none]) := by
  unfold f_is_kind m_is_kind kindOk
  exists isStr_s, dLenU_s hx
  by_cases h1 : (1 : Int) ≤ x.cps.size
  · exists decide_eq_true h1
    by_cases h2 : (x.cps.size : Int) ≤ 8
    · exists decide_eq_true h2
      unfold signs
      rw [lcM_eq (F := fun c => PyData.bool (decide (c ∈ ("abcdefghijklmnopqrstuvwxyz" ++ "ABCDEFGHIJKLMNOPQRSTUVWXYZ" : Str).cps.toList))) (by rw [Array.length_toList]; omega) fun c _ => ⟨_, rfl, [some (.str x), some (.str ⟨#[c]⟩)], rfl, rfl⟩]
      exists dAll_f
      rw [show decide (1 ≤ x.cps.size ∧ x.cps.size ≤ 8) = true from decide_eq_true ⟨by omega, by omega⟩]
      rfl
    · exists decide_eq_false h2
      rw [show decide (1 ≤ x.cps.size ∧ x.cps.size ≤ 8) = false from decide_eq_false (by omega)]
      rfl
  · exists decide_eq_false h1
    rw [show decide (1 ≤ x.cps.size ∧ x.cps.size ≤ 8) = false from decide_eq_false (by omega)]
    rfl
def valOk (m : Int) : Val → Bool
  | .non => true
  | .bool _ => true
  | .int i => decide (-m ≤ i) && decide (i ≤ m)
  | .str x => kindOk x
def Val.fits : Val → Prop
  | .str x => x.cps.size ≤ 100000
  | _ => True
theorem is_value_ok {m : Int} {v : Val} (h : v.fits) : f_is_value [some v.d, some (.int m)] = some (.bool (valOk m v), [none, none]) := by
  cases v with
  | non => rfl
  | bool b => rfl
  | int i =>
    unfold f_is_value m_is_value
    show _ = some (PyData.bool (decide (-m ≤ i) && decide (i ≤ m)), _)
    unfold Val.d
    exists show dIsN [.int i, .none] = some (.bool false) from rfl, dIs_bool_i, is_number_i
    cases hb : (decide (-m ≤ i) && decide (i ≤ m)) with
    | true => exists kTr_b
    | false =>
      exists show f_is_kind [some (.int i)] = some (.bool false, [none]) from rfl
  | str x =>
    unfold f_is_value m_is_value Val.d
    exists show dIsN [.str x, .none] = some (.bool false) from rfl, show dIs "bool" [.str x] = some (.bool false) from rfl, is_number_s, is_kind_ok h
    rfl
def Row.ok : Row → Bool
  | .push v l => decide (l ≤ 9999) && valOk 1000000000 v
  | .nm _ n l => decide (l ≤ 9999) && nameOk n
  | .copy n l => decide (l ≤ 9999) && (decide (1 ≤ n) && decide (n ≤ 9))
  | .swap n l => decide (l ≤ 9999) && (decide (2 ≤ n) && decide (n ≤ 9))
  | .jmp _ m l => decide (l ≤ 9999) && decide (m ≤ 99)
  | .tri m l => decide (l ≤ 9999) && decide (m ≤ 99)
  | .label m l => decide (l ≤ 9999) && decide (m ≤ 99)
  | .pr _ l => decide (l ≤ 9999)
  | .bare _ l => decide (l ≤ 9999)
  | .endtry l => decide (l ≤ 9999)
def Row.fits : Row → Prop
  | .push v _ => v.fits
  | .nm _ n _ => n.cps.size ≤ 100000
  | _ => True
def Row.isCounted : Row → Bool
  | .copy _ _ => true
  | .swap _ _ => true
  | _ => false
def Row.isNm : Row → Bool
  | .nm _ _ _ => true
  | _ => false
def Row.isLabel : Row → Bool
  | .label _ _ => true
  | _ => false
def Row.isHop : Row → Bool
  | .jmp _ _ _ => true
  | .tri _ _ => true
  | _ => false
def Row.isPush : Row → Bool
  | .push _ _ => true
  | _ => false
section
variable {r : Row}
theorem o_counted : dKin false [("copy", (.int 1)), ("swap", (.int 2))] [.str r.op] = some (.bool r.isCounted) := by
  cases r with
  | nm o n l => cases o <;> kernel_rfl
  | jmp o m l => cases o <;> kernel_rfl
  | pr o l => cases o <;> kernel_rfl
  | bare o l => cases o <;> kernel_rfl
  | _ => kernel_rfl
theorem o_nm : dInU [.str r.op, .tuple [(.str "load"), (.str "quick"), (.str "store"), (.str "clear")]] = some (.bool r.isNm) := by
  cases r with
  | nm o n l => cases o <;> kernel_rfl
  | jmp o m l => cases o <;> kernel_rfl
  | pr o l => cases o <;> kernel_rfl
  | bare o l => cases o <;> kernel_rfl
  | _ => kernel_rfl
theorem o_label : dEqU [.str r.op, .str "label"] = some (.bool r.isLabel) := by
  cases r with
  | nm o n l => cases o <;> kernel_rfl
  | jmp o m l => cases o <;> kernel_rfl
  | pr o l => cases o <;> kernel_rfl
  | bare o l => cases o <;> kernel_rfl
  | _ => kernel_rfl
theorem o_hop : dInU [.str r.op, .tuple [(.str "jump"), (.str "iftrue"), (.str "iffalse"), (.str "ortrue"), (.str "orfalse"), (.str "try")]] = some (.bool r.isHop) := by
  cases r with
  | nm o n l => cases o <;> kernel_rfl
  | jmp o m l => cases o <;> kernel_rfl
  | pr o l => cases o <;> kernel_rfl
  | bare o l => cases o <;> kernel_rfl
  | _ => kernel_rfl
theorem o_push : dInU [.str r.op, .tuple [(.str "push")]] = some (.bool r.isPush) := by
  cases r with
  | nm o n l => cases o <;> kernel_rfl
  | jmp o m l => cases o <;> kernel_rfl
  | pr o l => cases o <;> kernel_rfl
  | bare o l => cases o <;> kernel_rfl
  | _ => kernel_rfl
end
theorem isTup_row {r : Row} : dIs "tuple" [r.d] = some (.bool true) := by
  rw [Row.d_eq]
  rfl
theorem len_row {r : Row} : dLenU [r.d] = some (.int 3) := by
  rw [Row.d_eq]
  rfl
theorem is_mark_ok {m : Nat} : f_is_mark [some (dN m)] = some (.bool (decide (m ≤ 99)), [none]) := by
  unfold f_is_mark m_is_mark
  exists is_number_i
  rw [show decide ((0 : Int) ≤ (m : Int)) = true from decide_eq_true (by omega), Bool.true_and, show decide ((m : Int) ≤ 99) = decide (m ≤ 99) from decide_eq_decide.mpr (by omega)]
theorem is_row_ok {r : Row} (h : r.fits) : f_is_row [some r.d] = some (.bool r.ok, [none]) := by
  have hl : decide ((0 : Int) ≤ (r.line : Int)) = true := decide_eq_true (by omega)
  have hl2 : decide ((r.line : Int) ≤ 9999) = decide (r.line ≤ 9999) := decide_eq_decide.mpr (by omega)
  unfold f_is_row m_is_row
  exists isTup_row, len_row, dNeU_i, row_0, isStr_s, row_3, is_number_i, hl, hl2, Bool.true_and, show (decide ((3 : Int) = 3)) = true from rfl
  by_cases h1 : r.line ≤ 9999
  · exists decide_eq_true h1, o_counted
    cases r with
    | push v l =>
      exists show Row.isCounted (.push v l) = false from rfl, o_nm, show Row.isNm (.push v l) = false from rfl, o_label, show Row.isLabel (.push v l) = false from rfl, o_hop, show Row.isHop (.push v l) = false from rfl, o_push, show Row.isPush (.push v l) = true from rfl, show Row.arg (.push v l) = v.d from rfl, is_value_ok h
      show _ = some (PyData.bool (decide (l ≤ 9999) && valOk 1000000000 v), _)
      rw [show decide (l ≤ 9999) = true from decide_eq_true h1, Bool.true_and]
    | nm o n l =>
      exists show Row.isCounted (.nm o n l) = false from rfl, o_nm, show Row.isNm (.nm o n l) = true from rfl, show Row.arg (.nm o n l) = .str n from rfl, is_name_ok h
      show _ = some (PyData.bool (decide (l ≤ 9999) && nameOk n), _)
      rw [show decide (l ≤ 9999) = true from decide_eq_true h1, Bool.true_and]
    | copy n l =>
      exists show Row.isCounted (.copy n l) = true from rfl, show Row.arg (.copy n l) = dN n from rfl, show dKget [("copy", (.int 1)), ("swap", (.int 2))] [.str (Row.op (.copy n l))] = some (.int 1) by kernel_rfl, is_number_i
      show _ = some (PyData.bool (decide (l ≤ 9999) && (decide (1 ≤ n) && decide (n ≤ 9))), _)
      rw [show decide (l ≤ 9999) = true from decide_eq_true h1, Bool.true_and, show decide ((1 : Int) ≤ (n : Int)) = decide (1 ≤ n) from decide_eq_decide.mpr (by omega), show decide ((n : Int) ≤ 9) = decide (n ≤ 9) from decide_eq_decide.mpr (by omega)]
    | swap n l =>
      exists show Row.isCounted (.swap n l) = true from rfl, show Row.arg (.swap n l) = dN n from rfl, show dKget [("copy", (.int 1)), ("swap", (.int 2))] [.str (Row.op (.swap n l))] = some (.int 2) by kernel_rfl, is_number_i
      show _ = some (PyData.bool (decide (l ≤ 9999) && (decide (2 ≤ n) && decide (n ≤ 9))), _)
      rw [show decide (l ≤ 9999) = true from decide_eq_true h1, Bool.true_and, show decide ((2 : Int) ≤ (n : Int)) = decide (2 ≤ n) from decide_eq_decide.mpr (by omega), show decide ((n : Int) ≤ 9) = decide (n ≤ 9) from decide_eq_decide.mpr (by omega)]
    | jmp o m l =>
      exists show Row.isCounted (.jmp o m l) = false from rfl, o_nm, show Row.isNm (.jmp o m l) = false from rfl, o_label, show Row.isLabel (.jmp o m l) = false from rfl, o_hop, show Row.isHop (.jmp o m l) = true from rfl, show Row.arg (.jmp o m l) = dN m from rfl, is_mark_ok
      show _ = some (PyData.bool (decide (l ≤ 9999) && decide (m ≤ 99)), _)
      rw [show decide (l ≤ 9999) = true from decide_eq_true h1, Bool.true_and]
    | tri m l =>
      exists show Row.isCounted (.tri m l) = false from rfl, o_nm, show Row.isNm (.tri m l) = false from rfl, o_label, show Row.isLabel (.tri m l) = false from rfl, o_hop, show Row.isHop (.tri m l) = true from rfl, show Row.arg (.tri m l) = dN m from rfl, is_mark_ok
      show _ = some (PyData.bool (decide (l ≤ 9999) && decide (m ≤ 99)), _)
      rw [show decide (l ≤ 9999) = true from decide_eq_true h1, Bool.true_and]
    | label m l =>
      exists show Row.isCounted (.label m l) = false from rfl, o_nm, show Row.isNm (.label m l) = false from rfl, o_label, show Row.isLabel (.label m l) = true from rfl, show Row.arg (.label m l) = dN m from rfl, is_mark_ok
      show _ = some (PyData.bool (decide (l ≤ 9999) && decide (m ≤ 99)), _)
      rw [show decide (l ≤ 9999) = true from decide_eq_true h1, Bool.true_and]
    | pr o l =>
      have z : some (PyData.bool (Row.ok (.pr o l)), [(none : Option D)]) = some (.bool true, [none]) := by
        show some (PyData.bool (decide (l ≤ 9999)), _) = _
        rw [decide_eq_true (show l ≤ 9999 from h1)]
      rw [z]
      cases o <;> kernel_rfl
    | bare o l =>
      have z : some (PyData.bool (Row.ok (.bare o l)), [(none : Option D)]) = some (.bool true, [none]) := by
        show some (PyData.bool (decide (l ≤ 9999)), _) = _
        rw [decide_eq_true (show l ≤ 9999 from h1)]
      rw [z]
      cases o <;> kernel_rfl
    | endtry l =>
      have z : some (PyData.bool (Row.ok (.endtry l)), [(none : Option D)]) = some (.bool true, [none]) := by
        show some (PyData.bool (decide (l ≤ 9999)), _) = _
        rw [decide_eq_true (show l ≤ 9999 from h1)]
      rw [z]
      kernel_rfl
  · exists decide_eq_false h1
    have z : r.ok = false := by
      cases r <;> simp only [Row.ok, Row.line] at h1 ⊢ <;> simp only [decide_eq_false h1, Bool.false_and]
    rw [z]
local macro_rules | `(tactic| exists $es,*) => `(tactic| simp only [v_var, v_mv, v_br, v_C, v_aNil, v_aCons, v_op, v_m1, v_m2, v_tr, v_and, v_or, v_not, v_andV, v_orV, v_notV, v_if, v_tup, v_lst, v_seq, v_skip, v_break, v_cont, v_drop, v_ret, v_ite, v_set, v_fz, v_th, v_asg, v_aug, v_call, v_fun, v_mut, v_no, v_pt, v_sl, v_chain, v_itL, v_for, v_lc, v_itU, v_it2, v_dc,
  kTr_b, kSeq_nx, kSeq_rt, kSeq_bk, kSeq_ct, kFun_rt, kFun_nx, kPt_i, kSl_1, kCh_i, kCh2_i, kItL_l, kItU_l, kItU_t, kItU_s, Option.bind_some, Option.bind_none, at_zero, at_succ, at_nil, fill_nil, fill_fz, fill_ow, fill_br, Option.map_some, List.set_cons_zero, List.set_cons_succ, List.set_nil, List.map_cons, List.map_nil, List.cons_append, List.nil_append, List.append_nil, List.replicate_succ, List.replicate_zero, putB_nil, putB_br, putB_fz, putB_ow, outE_nil, outE_fz, outE_io, mgN_e, mgNil_e, mgCons_e, mgT_e, mgL_e, List.length_cons, List.length_nil, if_true, if_false, reduceIte, Bool.false_eq_true, Bool.not_true, Bool.not_false, decide_true, decide_false, dSub_i, dAdd_i, dAddU_i, dLt_i, dLe_i, dGt_i, dGe_i, dNeg_i, row_0, row_1, row_2, row_3, st_0, st_1, st_2, o_jump, o_branch, o_if, o_try, o_endtry, o_end, o_ncopy, o_faulty, o_counted, o_nm, o_label, o_hop, o_push, takes_ok, grows_ok, ix_gs, sl_gs, dEq_gs, dNe_gs, ix_wh, isTy_l, isTup_row, len_row, dEnum_map, Bool.true_and, Bool.false_and, Bool.and_true, Bool.and_false, $[$es:term],*])
theorem in_ns {m : Nat} {ms : List Nat} : inD false [dN m, .list (ms.map dN)] = some (.bool (decide (m ∈ ms))) := by
  have h : flVs (ms.map dN) = some (ms.map fun (n : Nat) => V.int (n : Int)) := by
    induction ms with
    | nil => rfl
    | cons n ms ih =>
      show (flVs (ms.map dN)).map _ = _
      rw [ih]
      rfl
  show (flVs (ms.map dN)).map (fun vs => PyData.bool (inV (.int m) vs)) = _
  rw [h]
  show some (PyData.bool (inV (.int m) (ms.map fun (n : Nat) => V.int (n : Int)))) = _
  congr 2
  unfold inV
  rw [List.any_map, Bool.eq_iff_iff, List.any_eq_true, decide_eq_true_iff]
  constructor
  · rintro ⟨n, h1, h2⟩
    have h2 : ((n : Int) == (m : Int)) = true := h2
    have e : n = m := by have := beq_iff_eq.mp h2; omega
    rw [← e]
    exact h1
  · intro h1
    exact ⟨m, h1, show ((m : Int) == (m : Int)) = true from beq_self_eq_true _⟩
theorem in_nsU {m : Nat} {ms : List Nat} : dInU [dN m, .list (ms.map dN)] = some (.bool (decide (m ∈ ms))) := orD_l in_ns
theorem nin_nsU {m : Nat} {ms : List Nat} : dNinU [dN m, .list (ms.map dN)] = some (.bool (!decide (m ∈ ms))) := by
  refine orD_l ?_
  have h := in_ns (m := m) (ms := ms)
  show (flVs (ms.map dN)).map (fun vs => PyData.bool (!inV (.int m) vs)) = _
  obtain ⟨vs, h1, h2⟩ := Option.map_eq_some_iff.mp (show (flVs (ms.map dN)).map (fun vs => PyData.bool (inV (.int m) vs)) = _ from h)
  rw [h1]
  injection h2 with h2
  show some (PyData.bool (!inV (.int m) vs)) = _
  rw [h2]
def labelMarks (c : Code) : List Nat := c.filterMap fun r => if (r.ok && r.isLabel) = true then some r.mark else none
def bpStep (ms : List Nat) (seen : List Nat) (p : Nat × Row) : Option (LR (List Nat) Nat) :=
  if (!p.2.ok || (p.2.isHop && !decide (p.2.mark ∈ ms))) = true then some (.out p.1)
  else if p.2.isLabel = true then (if p.2.mark ∈ seen then some (.out p.1) else if seen.length < 1000000 then some (.go (seen ++ [p.2.mark])) else none)
  else some (.go seen)
def badPlace (c : Code) : Option (Option Nat) := (runL (bpStep (labelMarks c)) (enumF 0 c) []).map fun z => match z with
  | .go _ => none
  | .out n => some n
def oD {α : Type} (f : α → D) : Option α → D
  | none => .none
  | some a => f a
theorem arg_hop {r : Row} (h : r.isHop = true) : r.arg = dN r.mark := by
  cases r <;> first | rfl | cases h
theorem arg_label {r : Row} (h : r.isLabel = true) : r.arg = dN r.mark := by
  cases r <;> first | rfl | cases h
theorem isNum_hop {r : Row} (h : r.isLabel = true) : r.isHop = false := by
  cases r <;> first | rfl | cases h
def Code.fits (c : Code) : Prop := c.length ≤ 1000000 ∧ ∀ r, r ∈ c → r.fits
theorem bad_place_ok {c : Code} (hf : c.fits) {z : Option Nat} (h : badPlace c = some z) : f_bad_place [some c.d] = some (oD dN z, [none]) := by
  unfold f_bad_place m_bad_place
  exists v_itU
  rw [lcF_eq (F := fun r => if (r.ok && r.isLabel) = true then some (dN r.mark) else none) hf.1 fun r hr => by
    refine ⟨_, rfl, (r.ok && r.isLabel), [some c.d, none, none, none, some r.d], ?_, ?_⟩
    · exists wipe_cons, wipe_nil, is_row_ok (hf.2 r hr), row_0, o_label
      cases h1 : r.ok with
      | true => exists Bool.true_and
      | false => exists Bool.false_and
    · by_cases hb : (r.ok && r.isLabel) = true
      · rw [if_pos hb]
        refine ⟨dN r.mark, [some c.d, none, none, none, some r.d], ?_, by rw [if_pos hb], rfl⟩
        exists row_1, arg_label (Bool.and_eq_true_iff.mp hb).2
      · rw [if_neg hb]
        exact ⟨by rw [if_neg hb], rfl⟩]
  have em : (c.filterMap fun r => if (r.ok && r.isLabel) = true then some (dN r.mark) else none) = (labelMarks c).map dN := by
    unfold labelMarks
    rw [List.map_filterMap]
    congr 1
    funext r
    split <;> rfl
  rw [em]
  exists dEnum_map
  obtain ⟨y, h1, h2⟩ := Option.map_eq_some_iff.mp h
  have key := forL_run (τ := Nat × Row) (J := Option D × Option D) (u := fun p => PyData.tuple [dN p.1, p.2.d]) (E := fun j s => [some c.d, some (.list ((labelMarks c).map dN)), some (.list (s.map dN)), j.1, j.2]) (O := fun r d ρ => d = dN r ∧ outE [.fz] ρ = [none]) (step := bpStep (labelMarks c))
    (g := mgT 2 (mgCons (mgN 3) (mgCons (mgN 4) mgNil)))
    (b := (mSeq (mIte (mOr (mNot (mTr (mCall f_is_row [.fz] [] (maCons (mVar 4) maNil)))) (mAnd (mTr (m2 (.fz) (.fz) (m2 (.fz) (.fz) (mVar 4) (mC (.int 0)) dIxU) (mC (.tuple [(.str "jump"), (.str "iftrue"), (.str "iffalse"), (.str "ortrue"), (.str "orfalse"), (.str "try")])) dInU)) (mTr (m2 (.fz) (.fz) (m2 (.fz) (.fz) (mVar 4) (mC (.int 1)) dIxU) (mVar 1) dNinU)))) (mRet (mVar 3)) mSkip)
  (mIte (mTr (m2 (.fz) (.fz) (m2 (.fz) (.fz) (mVar 4) (mC (.int 0)) dIxU) (mC (.str "label")) dEqU)) (mSeq (mIte (mTr (m2 (.fz) (.br 2) (m2 (.fz) (.fz) (mVar 4) (mC (.int 1)) dIxU) (mBr 2) dInU)) (mRet (mVar 3)) mSkip)
  (mDrop (mMut 2 "list" (maCons (m2 (.fz) (.fz) (mVar 4) (mC (.int 1)) dIxU) maNil) dAppend))) mSkip)))
    (xs := enumF 0 c) (by
      rintro ⟨j1, j2⟩ s ⟨at_, r⟩ z hx hs
      have hr : r ∈ c := List.mem_of_getElem? (enumF_mem.mp hx)
      refine ⟨[some c.d, some (.list ((labelMarks c).map dN)), some (.list (s.map dN)), some (dN at_), some r.d], rfl, ?_⟩
      exists is_row_ok (hf.2 r hr), row_0, row_1, o_hop, o_label
      unfold bpStep at hs
      cases h1 : r.ok with
      | false =>
        simp [h1] at hs
        subst hs
        exact ⟨_, _, rfl, rfl, rfl⟩
      | true =>
        exists h1
        cases h2 : r.isLabel with
        | true =>
          exists h2, isNum_hop h2, arg_label h2, in_nsU
          simp [h1, h2, isNum_hop h2] at hs
          by_cases h3 : r.mark ∈ s
          · simp [h3] at hs
            subst hs
            exists decide_eq_true h3
            exact ⟨_, _, rfl, rfl, rfl⟩
          · simp [h3] at hs
            obtain ⟨h4, rfl⟩ := hs
            exists decide_eq_false h3, arg_label h2, dAppend_eq (show (s.map dN).length < 1000000 by rw [List.length_map]; exact h4)
            exact ⟨(some (dN at_), some r.d), .inl (by rw [List.map_append]; rfl)⟩
        | false =>
          cases h3 : r.isHop with
          | false =>
            simp [h1, h2, h3] at hs
            subst hs
            exists h2, h3
            exact ⟨(some (dN at_), some r.d), .inl rfl⟩
          | true =>
            exists h2, h3, arg_hop h3, nin_nsU
            by_cases h4 : r.mark ∈ labelMarks c
            · simp [h1, h2, h3, h4] at hs
              subst hs
              exists decide_eq_true h4, h2
              exact ⟨(some (dN at_), some r.d), .inl rfl⟩
            · simp [h1, h2, h3, h4] at hs
              subst hs
              exists decide_eq_false h4
              exact ⟨_, _, rfl, rfl, rfl⟩) (j := (none, none)) h1
  cases y with
  | go s' =>
    obtain ⟨j', e⟩ := key
    cases h2
    simp only [List.map_nil] at e
    exists e
    rfl
  | out n =>
    obtain ⟨d, ρ2, e, e1, e2⟩ := key
    cases h2
    simp only [List.map_nil] at e
    exists e, e1, e2
    rfl
theorem look_code_ok {c : Code} (hf : c.fits) (h : badPlace c = some none) (h1 : 1 ≤ c.length) (h2 : c.length ≤ 150) : f_look_code [some c.d] = some (.none, [none]) := by
  unfold f_look_code m_look_code
  exists show dIs "list" [c.d] = some (.bool true) from rfl, show dLenU [c.d] = some (.int c.length) by (show some (PyData.int ((c.map Row.d).length : Nat)) = _; rw [List.length_map])
  exists decide_eq_true (show (1 : Int) ≤ c.length by omega), decide_eq_true (show (c.length : Int) ≤ 150 by omega), bad_place_ok hf h, show dNotN [oD dN none, .none] = some (.bool false) from rfl
section
variable {α : Type} {f : α → D}
def putA (m : Nat) (a : α) (w : List (Nat × α)) : List (Nat × α) := if (w.lookup m).isSome = true then w.map (fun p => if p.1 = m then (p.1, a) else p) else w ++ [(m, a)]
theorem putA_len {m : Nat} {a : α} {w : List (Nat × α)} : (putA m a w).length ≤ w.length + 1 := by
  unfold putA
  split
  · rw [List.length_map]
    omega
  · rw [List.length_append, List.length_singleton]
    exact Nat.le_refl _
theorem lookup_map_put {m k : Nat} {a : α} : ∀ {w : List (Nat × α)}, (w.map (fun p => if p.1 = m then (p.1, a) else p)).lookup k = if k = m then (w.lookup k).map fun _ => a else w.lookup k
  | [] => by
    show none = _
    split <;> rfl
  | p :: w => by
    have ih := lookup_map_put (m := m) (k := k) (a := a) (w := w)
    rw [List.map_cons, List.lookup_cons, List.lookup_cons]
    by_cases h : p.1 = m
    · rw [if_pos h]
      by_cases h2 : k = m
      · rw [if_pos h2, show (k == p.1) = true from beq_iff_eq.mpr (h2.trans h.symm)]
        rfl
      · rw [if_neg h2, show (k == p.1) = false from beq_eq_false_iff_ne.mpr fun z => h2 (z.trans h), ih, if_neg h2]
    · rw [if_neg h, ih]
      by_cases h2 : k = m
      · rw [if_pos h2, if_pos h2, show (k == p.1) = false from beq_eq_false_iff_ne.mpr fun z => h (z.symm.trans h2)]
      · rw [if_neg h2, if_neg h2]
theorem lookup_append {k : Nat} {m : Nat} {a : α} : ∀ {w : List (Nat × α)}, (w ++ [(m, a)]).lookup k = match w.lookup k with
    | some b => some b
    | none => if k = m then some a else none
  | [] => by
    show (match k == m with | true => some a | false => none) = if k = m then some a else none
    by_cases h : k = m
    · rw [if_pos h, beq_iff_eq.mpr h]
    · rw [if_neg h, beq_eq_false_iff_ne.mpr h]
  | p :: w => by
    rw [List.cons_append, List.lookup_cons, List.lookup_cons]
    cases k == p.1 with
    | true => rfl
    | false => exact lookup_append
theorem lookup_putA {m k : Nat} {a : α} {w : List (Nat × α)} : (putA m a w).lookup k = if k = m then some a else w.lookup k := by
  unfold putA
  split
  · rename_i h
    rw [lookup_map_put]
    by_cases h2 : k = m
    · rw [if_pos h2, if_pos h2, h2]
      obtain ⟨b, hb⟩ := Option.isSome_iff_exists.mp h
      rw [hb]
      rfl
    · rw [if_neg h2, if_neg h2]
  · rename_i h
    rw [lookup_append]
    by_cases h2 : k = m
    · rw [if_pos h2, if_pos h2, h2]
      cases e : w.lookup m with
      | none => rfl
      | some b =>
        rw [e] at h
        exact (h rfl).elim
    · rw [if_neg h2, if_neg h2]
      cases w.lookup k <;> rfl
end
def putO {α : Type} (w : List (Nat × α)) : Option (Nat × α) → List (Nat × α)
  | some p => putA p.1 p.2 w
  | none => w
def labF (p : Nat × Row) : Option (Nat × Nat) := if p.2.isLabel = true then some (p.2.mark, p.1) else none
def whereL (c : Code) : List (Nat × Nat) := (enumF 0 c).foldl (fun w p => putO w (labF p)) []
section
variable {ρ : En} {i : Nat} {mi mv : M}
theorem v_putU : mPutU i mi mv ρ = (mv ρ).bind fun p => (at? p.2 i).bind fun _ => (mi p.2).bind fun q => (at? q.2 i).bind fun c => (putU c q.1 p.1).bind fun z => some (.nx, q.2.set i (some z)) := by
  unfold mPutU
  simp only [v_br, Option.bind_assoc, Option.bind_some, Option.map_eq_bind]
  congr 1
  funext p
  congr 1
  funext x
  congr 1
  funext q
  exact slotM
theorem v_disp {r : MPs} : mDisp r ρ = (r ρ).bind fun z => some (.dict (mergeD [] z.1), z.2) := Option.map_eq_bind ..
theorem v_pNil : mpNil ρ = some ([], ρ) := rfl
theorem v_pCons {mk : M} {r : MPs} : mpCons mk mv r ρ = (mk ρ).bind fun p => (dKey p.1).bind fun k => (mv p.2).bind fun q => (r q.2).bind fun z => some ((k, q.1) :: z.1, z.2) := by
  unfold mpCons
  simp only [Option.map_eq_bind]
  try rfl
end
local macro_rules | `(tactic| exists $es,*) => `(tactic| simp only [v_var, v_mv, v_br, v_C, v_aNil, v_aCons, v_op, v_m1, v_m2, v_tr, v_and, v_or, v_not, v_andV, v_orV, v_notV, v_if, v_tup, v_lst, v_seq, v_skip, v_break, v_cont, v_drop, v_ret, v_ite, v_set, v_fz, v_th, v_asg, v_aug, v_call, v_fun, v_mut, v_no, v_pt, v_sl, v_chain, v_itL, v_for, v_lc, v_itU, v_it2, v_dc, v_putU, v_disp, v_pCons, v_pNil,
  kTr_b, kSeq_nx, kSeq_rt, kSeq_bk, kSeq_ct, kFun_rt, kFun_nx, kPt_i, kSl_1, kCh_i, kCh2_i, kItL_l, kItU_l, kItU_t, kItU_s, Option.bind_some, Option.bind_none, at_zero, at_succ, at_nil, fill_nil, fill_fz, fill_ow, fill_br, Option.map_some, List.set_cons_zero, List.set_cons_succ, List.set_nil, List.map_cons, List.map_nil, List.cons_append, List.nil_append, List.append_nil, List.replicate_succ, List.replicate_zero, putB_nil, putB_br, putB_fz, putB_ow, outE_nil, outE_fz, outE_io, mgN_e, mgNil_e, mgCons_e, mgT_e, mgL_e, List.length_cons, List.length_nil, if_true, if_false, reduceIte, Bool.false_eq_true, Bool.not_true, Bool.not_false, decide_true, decide_false, dSub_i, dAdd_i, dAddU_i, dLt_i, dLe_i, dGt_i, dGe_i, dNeg_i, row_0, row_1, row_2, row_3, st_0, st_1, st_2, o_jump, o_branch, o_if, o_try, o_endtry, o_end, o_ncopy, o_faulty, o_counted, o_nm, o_label, o_hop, o_push, takes_ok, grows_ok, ix_gs, sl_gs, dEq_gs, dNe_gs, ix_wh, isTy_l, isTup_row, len_row, dEnum_map, Bool.true_and, Bool.false_and, Bool.and_true, Bool.and_false, $[$es:term],*])
def beneath (r : Row) (s : St) : Bool := match s.g with
  | [] => false
  | x :: _ => !r.isCopy && (decide (0 < r.takes) && decide (s.d - r.takes < x.2))
def lacks (n : Nat) (w : List (Nat × Nat)) (r : Row) (at_ : Nat) (s : St) : Option (List Str) :=
  (allNext w r at_ s).map fun l => (if s.d < r.takes then [("takes" : Str)] else []) ++ (if (r.isEndtry && s.g.isEmpty) = true then [("guard" : Str)] else []) ++ (if beneath r s = true then [("beneath" : Str)] else []) ++ (if l.any (fun p => decide (p.1 = n)) = true then [("end" : Str)] else [])
theorem strOk_ofString {s : String} : PyData.strOk (Str.ofString s) = true := by
  rw [Str.ofString_eq_toList]
  show Array.all (List.map Char.toNat s.toList).toArray _ = true
  rw [List.all_toArray]
  rw [List.all_eq_true]
  intro x hx
  obtain ⟨c, _, rfl⟩ := List.mem_map.mp hx
  have := c.valid
  have h2 : c.toNat = c.val.toNat := rfl
  rcases this with h | h
  · have h3 : c.val.toNat < 0xd800 := h
    exact decide_eq_true (by omega)
  · have h3 : c.val.toNat < 0x110000 := h.2
    exact decide_eq_true (by omega)
theorem Eq0.str {x : Str} {n : Nat} (h : PyData.strOk x = true) : Eq0 n (.str x) := ⟨by rw [PyData.canLay0]; exact h, rfl, by simp [PyData.depth]⟩
section
variable {τ : Type} {u : τ → D}
theorem cat_list {xs ys : List τ} (h : xs.length + ys.length ≤ 1000000) : dAddU [.list (xs.map u), .list (ys.map u)] = some (.list ((xs ++ ys).map u)) := by
  refine (orD_r rfl).trans (orD_l ?_)
  refine dCat_l.mpr ⟨by rw [List.length_map, List.length_map]; exact h, by rw [List.map_append]⟩
end
abbrev wkD (w : List Nat) : D := .tuple (w.map dN)
structure Ex where
  found : List (Option St)
  walks : List (Nat × List Nat)
  left : List Nat
inductive Paper where
  | word (w : Str) (walk : List Nat)
  | unlike (a b : List Nat)
def Paper.D : Paper → D
  | .word w a => .tuple [.str w, wkD a]
  | .unlike a b => .tuple [.str "unlike", wkD a, wkD b]
def exIn (at_ : Nat) (e : Ex) (p : Nat × St) : Option (LR Ex Paper) := match e.found[p.1]? with
  | none => none
  | some none => (e.walks.lookup at_).bind fun wk => if wk.length < 1000000 ∧ e.walks.length < 1000000 ∧ e.left.length < 1000000 then some (.go ⟨e.found.set p.1 (some p.2), putA p.1 (wk ++ [p.1]) e.walks, e.left ++ [p.1]⟩) else none
  | some (some s) => if s = p.2 then some (.go e) else (e.walks.lookup p.1).bind fun a => (e.walks.lookup at_).bind fun b => if b.length < 1000000 then some (.out (.unlike a (b ++ [p.1]))) else none
def exOut (c : Code) (e : Ex) : Option (WR Ex Paper) := match e.left with
  | [] => some (.stop e)
  | at_ :: rest => if rest.length < 16384 then (e.found[at_]?).bind fun o => o.bind fun s => (c[at_]?).bind fun r => if s.g.length < 1000000 then
      (lacks c.length (whereL c) r at_ s).bind fun ws => (match ws with
        | w :: _ => (e.walks.lookup at_).map fun wk => .out (.word w wk)
        | [] => (allNext (whereL c) r at_ s).bind fun l => (runL (exIn at_) l ⟨e.found, e.walks, rest⟩).map fun z => match z with
          | .go e' => .go e'
          | .out p => .out p) else none else none
def ex0 (c : Code) : Ex := ⟨(c.map fun _ => none).set 0 (some ⟨0, []⟩), [(0, [0])], [0]⟩
def explored (c : Code) : Option (List (Option St) ⊕ Paper) := (runW (exOut c) (c.length + 1) (ex0 c)).map fun z => match z with
  | .go e => .inl e.found
  | .out p => .inr p
theorem lookup_foldl {α τ : Type} {F : τ → Option (Nat × α)} : ∀ {xs : List τ} {w : List (Nat × α)} {m : Nat} {a : α}, (xs.foldl (fun w x => putO w (F x)) w).lookup m = some a → w.lookup m = some a ∨ ∃ x, x ∈ xs ∧ F x = some (m, a)
  | [], w, m, a, h => .inl h
  | x :: xs, w, m, a, h => by
    rw [List.foldl_cons] at h
    rcases lookup_foldl h with h | ⟨y, h1, h2⟩
    · cases e : F x with
      | none =>
        rw [e] at h
        exact .inl h
      | some p =>
        rw [e] at h
        have h : (putA p.1 p.2 w).lookup m = some a := h
        rw [lookup_putA] at h
        by_cases hm : m = p.1
        · rw [if_pos hm] at h
          injection h with h
          exact .inr ⟨x, List.mem_cons_self, by rw [e, hm, ← h]⟩
        · rw [if_neg hm] at h
          exact .inl h
    · exact .inr ⟨y, List.mem_cons_of_mem _ h1, h2⟩
theorem foldl_has {α τ : Type} {F : τ → Option (Nat × α)} : ∀ {xs : List τ} {w : List (Nat × α)} {m : Nat}, (w.lookup m).isSome = true ∨ (∃ x a, x ∈ xs ∧ F x = some (m, a)) → ((xs.foldl (fun w x => putO w (F x)) w).lookup m).isSome = true
  | [], w, m, h => by
    rcases h with h | ⟨x, a, h, _⟩
    · exact h
    · cases h
  | x :: xs, w, m, h => by
    rw [List.foldl_cons]
    have put : ∀ p : Nat × α, (w.lookup m).isSome = true ∨ m = p.1 → ((putA p.1 p.2 w).lookup m).isSome = true := fun p h => by
      rw [lookup_putA]
      split
      · rfl
      · rename_i hm
        exact h.resolve_right hm
    refine foldl_has ?_
    cases e : F x with
    | none =>
      rcases h with h | ⟨y, a, h1, h2⟩
      · exact .inl h
      · rcases List.mem_cons.mp h1 with rfl | h1
        · rw [e] at h2
          cases h2
        · exact .inr ⟨y, a, h1, h2⟩
    | some p =>
      rcases h with h | ⟨y, a, h1, h2⟩
      · exact .inl (put p (.inl h))
      · rcases List.mem_cons.mp h1 with rfl | h1
        · rw [e] at h2
          injection h2 with h2
          exact .inl (put p (.inr (by rw [h2])))
        · exact .inr ⟨y, a, h1, h2⟩
theorem where_some {c : Code} {m p : Nat} (h : (whereL c).lookup m = some p) : ∃ l, c[p]? = some (.label m l) := by
  rcases lookup_foldl h with h | ⟨x, h1, h2⟩
  · cases h
  · have h1 := enumF_mem.mp h1
    unfold labF at h2
    split at h2
    · rename_i hb
      injection h2 with h2
      obtain ⟨xi, xr⟩ := x
      cases xr with
      | label m' l =>
        have h2 : (m', xi) = (m, p) := h2
        cases h2
        exact ⟨l, h1⟩
      | _ => cases hb
    · cases h2
theorem where_has {c : Code} {m l i : Nat} (h : c[i]? = some (.label m l)) : ((whereL c).lookup m).isSome = true :=
  foldl_has (.inr ⟨(i, .label m l), i, enumF_mem.mpr h, rfl⟩)
theorem where_lt {c : Code} {m p : Nat} (h : (whereL c).lookup m = some p) : p < c.length := by
  obtain ⟨l, h⟩ := where_some h
  exact (List.getElem?_eq_some_iff.mp h).1
structure Good (c : Code) : Prop where
  pos : 1 ≤ c.length
  few : c.length ≤ 1000
  hop : ∀ r, r ∈ c → r.isHop = true → ((whereL c).lookup r.mark).isSome = true
theorem Good.at {c : Code} (g : Good c) {r : Row} {i : Nat} (h : c[i]? = some r) (hr : r.isHop = true) : ∃ p, (whereL c).lookup r.mark = some p ∧ p < c.length := by
  obtain ⟨p, hp⟩ := Option.isSome_iff_exists.mp (g.hop r (List.mem_of_getElem? h) hr)
  exact ⟨p, hp, where_lt hp⟩
def GsOk (c : Code) (g : List (Nat × Int)) : Prop := ∀ x, x ∈ g → ((whereL c).lookup x.1).isSome = true
theorem plainNext_some {c : Code} {r : Row} {i : Nat} {s : St} (g : Good c) (h : c[i]? = some r) : ∃ l, plainNext (whereL c) r i s = some l ∧ ∀ q, q ∈ l → q.1 ≤ c.length ∧ q.2.g.length ≤ s.g.length + 1 ∧ (GsOk c s.g → GsOk c q.2.g) := by
  have hi := (List.getElem?_eq_some_iff.mp h).1
  unfold plainNext
  split
  · rename_i hb
    obtain ⟨p, h1, h2⟩ := g.at h (by cases r <;> first | rfl | cases hb)
    rw [h1]
    refine ⟨_, rfl, fun q hq => ?_⟩
    rw [List.mem_singleton.mp hq]
    exact ⟨Nat.le_of_lt h2, Nat.le_succ _, id⟩
  · split
    · rename_i hb
      obtain ⟨p, h1, h2⟩ := g.at h (by cases r <;> first | rfl | cases hb)
      rw [h1]
      refine ⟨_, rfl, fun q hq => ?_⟩
      rcases List.mem_cons.mp hq with rfl | hq
      · exact ⟨hi, Nat.le_succ _, id⟩
      · rw [List.mem_singleton.mp hq]
        exact ⟨Nat.le_of_lt h2, Nat.le_succ _, id⟩
    · split
      · rename_i hb
        refine ⟨_, rfl, fun q hq => ?_⟩
        rw [List.mem_singleton.mp hq]
        refine ⟨hi, Nat.le_refl _, fun hg x hx => ?_⟩
        rcases List.mem_cons.mp hx with rfl | hx
        · obtain ⟨p, h1, h2⟩ := g.at h (by cases r <;> first | rfl | cases hb)
          rw [h1]
          rfl
        · exact hg x hx
      · split
        · refine ⟨_, rfl, fun q hq => ?_⟩
          rw [List.mem_singleton.mp hq]
          refine ⟨hi, ?_, fun hg x hx => hg x (List.mem_of_mem_tail hx)⟩
          show s.g.tail.length ≤ _
          rw [List.length_tail]
          omega
        · split
          · exact ⟨_, rfl, fun q hq => by cases hq⟩
          · refine ⟨_, rfl, fun q hq => ?_⟩
            rw [List.mem_singleton.mp hq]
            exact ⟨hi, Nat.le_succ _, id⟩
theorem allNext_some {c : Code} {r : Row} {i : Nat} {s : St} (g : Good c) (h : c[i]? = some r) (hg : GsOk c s.g) : ∃ l, allNext (whereL c) r i s = some l ∧ ∀ q, q ∈ l → q.1 ≤ c.length ∧ q.2.g.length ≤ s.g.length + 1 ∧ GsOk c q.2.g := by
  obtain ⟨l, h1, h2⟩ := plainNext_some (s := s) g h
  have h3 : ∀ q, q ∈ l → q.1 ≤ c.length ∧ q.2.g.length ≤ s.g.length + 1 ∧ GsOk c q.2.g := fun q hq => ⟨(h2 q hq).1, (h2 q hq).2.1, (h2 q hq).2.2 hg⟩
  unfold allNext
  rw [h1]
  obtain ⟨d, gs⟩ := s
  cases gs with
  | nil => exact ⟨l, rfl, h3⟩
  | cons x gs =>
    show ∃ l', (if r.isFaulty = true then ((whereL c).lookup x.1).map fun p => l ++ [(p, ⟨x.2 + 1, gs⟩)] else some l) = some l' ∧ _
    split
    · obtain ⟨p, hp⟩ := Option.isSome_iff_exists.mp (hg x List.mem_cons_self)
      rw [hp]
      refine ⟨_, rfl, fun q hq => ?_⟩
      rcases List.mem_append.mp hq with hq | hq
      · exact h3 q hq
      · rw [List.mem_singleton.mp hq]
        refine ⟨Nat.le_of_lt (where_lt hp), ?_, fun y hy => hg y (List.mem_cons_of_mem _ hy)⟩
        show gs.length ≤ gs.length + 1 + 1
        omega
    · exact ⟨l, rfl, h3⟩
inductive Trail (c : Code) : List Nat → St → Prop
  | base : Trail c [0] ⟨0, []⟩
  | step {wk : List Nat} {s s' : St} {i p : Nat} {r : Row} {l : List (Nat × St)} : Trail c wk s → wk.getLast? = some i → c[i]? = some r → lacks c.length (whereL c) r i s = some [] → allNext (whereL c) r i s = some l → (p, s') ∈ l → Trail c (wk ++ [p]) s'
def Reach (c : Code) (i : Nat) (s : St) : Prop := ∃ wk, Trail c wk s ∧ wk.getLast? = some i
theorem lacks_of {n : Nat} {w : List (Nat × Nat)} {r : Row} {i : Nat} {s : St} {l : List (Nat × St)} (h : allNext w r i s = some l) : ∃ ws, lacks n w r i s = some ws := by
  unfold lacks
  rw [h]
  exact ⟨_, rfl⟩
theorem lacks_end {n : Nat} {w : List (Nat × Nat)} {r : Row} {i : Nat} {s : St} {l : List (Nat × St)} (h : allNext w r i s = some l) (hl : lacks n w r i s = some []) : ∀ q, q ∈ l → q.1 ≠ n := by
  unfold lacks at hl
  rw [h] at hl
  have hl : some (_ ++ (if l.any (fun p => decide (p.1 = n)) = true then [("end" : Str)] else [])) = some [] := hl
  injection hl with hl
  have hl := (List.append_eq_nil_iff.mp hl).2
  split at hl
  · cases hl
  · rename_i hb
    intro q hq e
    exact hb (List.any_eq_true.mpr ⟨q, hq, decide_eq_true e⟩)
theorem Trail.gs {c : Code} (g : Good c) {wk : List Nat} {s : St} (h : Trail c wk s) : GsOk c s.g ∧ s.g.length ≤ wk.length := by
  induction h with
  | base => exact ⟨fun x hx => (by cases hx), Nat.zero_le _⟩
  | @step wk s s' i p r l h1 h2 h3 h4 h5 h6 ih =>
    obtain ⟨l, e1, e2⟩ := allNext_some g h3 ih.1
    rw [h5] at e1
    cases e1
    have := e2 _ h6
    refine ⟨this.2.2, ?_⟩
    have h7 : s'.g.length ≤ s.g.length + 1 := this.2.1
    have h8 := ih.2
    rw [List.length_append, List.length_singleton]
    omega
structure Least (c : Code) (t : List (Option St)) : Prop where
  len : t.length = c.length
  iff : ∀ i s, t[i]? = some (some s) ↔ Reach c i s
  fits : ∀ i s, Reach c i s → ∃ r l, c[i]? = some r ∧ lacks c.length (whereL c) r i s = some [] ∧ allNext (whereL c) r i s = some l
def Shows (c : Code) : Paper → Prop
  | .word w wk => ∃ i s r ws, Trail c wk s ∧ wk.getLast? = some i ∧ c[i]? = some r ∧ lacks c.length (whereL c) r i s = some (w :: ws)
  | .unlike a b => ∃ i s s', Trail c a s ∧ a.getLast? = some i ∧ Trail c b s' ∧ b.getLast? = some i ∧ s ≠ s'
def cnt (t : List (Option St)) : Nat := t.countP Option.isSome
theorem cnt_le {t : List (Option St)} : cnt t ≤ t.length := List.countP_le_length
theorem cnt_set {t : List (Option St)} {i : Nat} {s : St} (h : t[i]? = some none) : cnt (t.set i (some s)) = cnt t + 1 := by
  unfold cnt
  induction t generalizing i with
  | nil => cases h
  | cons x t ih =>
    cases i with
    | zero =>
      have h : some x = some none := h
      cases h
      rw [List.set_cons_zero, List.countP_cons, List.countP_cons]
      rfl
    | succ i =>
      rw [List.set_cons_succ, List.countP_cons, List.countP_cons, ih (by simpa using h)]
      omega
structure ExInv (c : Code) (e : Ex) : Prop where
  len : e.found.length = c.length
  beg : e.found[0]? = some (some ⟨0, []⟩)
  walk : ∀ i s, e.found[i]? = some (some s) → ∃ wk, e.walks.lookup i = some wk ∧ Trail c wk s ∧ wk.getLast? = some i ∧ wk.length ≤ cnt e.found
  wlen : e.walks.length ≤ cnt e.found
  left : ∀ i, i ∈ e.left → ∃ s, e.found[i]? = some (some s)
  llen : e.left.length ≤ cnt e.found
def DoneAt (c : Code) (e : Ex) (i : Nat) : Prop := ∀ s, e.found[i]? = some (some s) → ∃ r l, c[i]? = some r ∧ lacks c.length (whereL c) r i s = some [] ∧ allNext (whereL c) r i s = some l ∧ ∀ q, q ∈ l → e.found[q.1]? = some (some q.2)
theorem found_set {t : List (Option St)} {i j : Nat} {s s' : St} (h : t[i]? = some none) (h2 : t[j]? = some (some s')) : (t.set i (some s))[j]? = some (some s') := by
  rw [List.getElem?_set_ne]
  · exact h2
  · intro e
    rw [← e, h] at h2
    cases h2
theorem exIn_spec {c : Code} (g : Good c) {i : Nat} {s : St} {r : Row} {wk : List Nat} {l : List (Nat × St)} (hr : c[i]? = some r) (hl : lacks c.length (whereL c) r i s = some []) (hn : allNext (whereL c) r i s = some l) (ht : Trail c wk s) (hlast : wk.getLast? = some i) :
    ∀ {xs : List (Nat × St)} {e : Ex}, (∀ q, q ∈ xs → q ∈ l) → ExInv c e → e.found[i]? = some (some s) → e.walks.lookup i = some wk → wk.length ≤ cnt e.found → ∃ z, runL (exIn i) xs e = some z ∧ lrP (fun (e' : Ex) => ExInv c e' ∧ (∀ (j : Nat) (s : St), e.found[j]? = some (some s) → e'.found[j]? = some (some s)) ∧ (∀ q, q ∈ xs → e'.found[q.1]? = some (some q.2)) ∧ (∀ (j : Nat) (s : St), e'.found[j]? = some (some s) → e.found[j]? = some (some s) ∨ j ∈ e'.left) ∧ (∀ j, j ∈ e.left → j ∈ e'.left) ∧ cnt e'.found + e.left.length = cnt e.found + e'.left.length) (fun (p : Paper) => Shows c p) z
  | [], e, _, I, _, _, _ => ⟨.go e, rfl, I, fun _ _ h => h, fun q h => (by cases h), fun _ _ h => .inl h, fun _ h => h, rfl⟩
  | (p, s') :: xs, e, hx, I, h1, h2, h3 => by
    have hq := hx _ List.mem_cons_self
    obtain ⟨l', e1, e2⟩ := allNext_some g hr (ht.gs g).1
    rw [hn] at e1
    cases e1
    have hp : p < c.length := by
      have := (e2 _ hq).1
      have := lacks_end hn hl _ hq
      show p < c.length
      have h4 : (p, s').1 = p := rfl
      omega
    have hT : Trail c (wk ++ [p]) s' := .step ht hlast hr hl hn hq
    have hT2 : (wk ++ [p]).getLast? = some p := List.getLast?_concat
    have few := g.few
    have hc1 := cnt_le (t := e.found)
    have lenE := I.len
    have fl : p < e.found.length := by rw [lenE]; exact hp
    unfold runL exIn
    dsimp only
    rw [List.getElem?_eq_getElem fl]
    cases ho : e.found[p] with
    | none =>
      have hf : e.found[p]? = some none := by rw [List.getElem?_eq_getElem fl, ho]
      dsimp only
      rw [h2]
      have hpi : p ≠ i := fun z => by rw [z, h1] at hf; cases hf
      show ∃ z, ((if wk.length < 1000000 ∧ e.walks.length < 1000000 ∧ e.left.length < 1000000 then some (LR.go (Ex.mk (e.found.set p (some s')) (putA p (wk ++ [p]) e.walks) (e.left ++ [p]))) else none : Option (LR Ex Paper)).bind _) = _ ∧ _
      rw [if_pos ⟨by omega, by have := I.wlen; omega, by have := I.llen; omega⟩]
      have hcnt : cnt (e.found.set p (some s')) = cnt e.found + 1 := cnt_set hf
      have I' : ExInv c ⟨e.found.set p (some s'), putA p (wk ++ [p]) e.walks, e.left ++ [p]⟩ := by
        refine ⟨?_, found_set hf I.beg, fun j sj hj => ?_, ?_, fun j hj => ?_, ?_⟩
        · show (e.found.set p (some s')).length = _
          rw [List.length_set]
          exact I.len
        · have hj : (e.found.set p (some s'))[j]? = some (some sj) := hj
          show ∃ wk', (putA p (wk ++ [p]) e.walks).lookup j = some wk' ∧ Trail c wk' sj ∧ wk'.getLast? = some j ∧ wk'.length ≤ cnt (e.found.set p (some s'))
          rw [lookup_putA, hcnt]
          by_cases hjp : j = p
          · subst hjp
            rw [List.getElem?_set_self fl] at hj
            cases hj
            rw [if_pos rfl]
            exact ⟨_, rfl, hT, hT2, by rw [List.length_append, List.length_singleton]; omega⟩
          · rw [List.getElem?_set_ne (fun z => hjp z.symm)] at hj
            rw [if_neg hjp]
            obtain ⟨w, y1, y2, y3, y4⟩ := I.walk j sj hj
            exact ⟨w, y1, y2, y3, by omega⟩
        · show (putA p (wk ++ [p]) e.walks).length ≤ cnt (e.found.set p (some s'))
          have := putA_len (m := p) (a := wk ++ [p]) (w := e.walks)
          have := I.wlen
          omega
        · show ∃ s2, (e.found.set p (some s'))[j]? = some (some s2)
          rcases List.mem_append.mp hj with hj | hj
          · obtain ⟨s2, h⟩ := I.left j hj
            exact ⟨s2, found_set hf h⟩
          · rw [List.mem_singleton.mp hj]
            exact ⟨s', List.getElem?_set_self fl⟩
        · show (e.left ++ [p]).length ≤ cnt (e.found.set p (some s'))
          rw [List.length_append, List.length_singleton, hcnt]
          have := I.llen
          omega
      obtain ⟨z, k1, k2⟩ := exIn_spec g hr hl hn ht hlast (xs := xs) (fun q hq => hx q (List.mem_cons_of_mem _ hq)) I' (found_set hf h1) (by rw [lookup_putA, if_neg fun z => hpi z.symm]; exact h2) (by show wk.length ≤ cnt (e.found.set p (some s')); omega)
      refine ⟨z, k1, ?_⟩
      cases z with
      | out q => exact k2
      | go e' =>
        obtain ⟨a1, a2, a3, a4, a5, a6⟩ := k2
        refine ⟨a1, fun j sj hj => a2 j sj (found_set hf hj), fun q hq => ?_, fun j sj hj => ?_, fun j hj => a5 j (List.mem_append_left _ hj), ?_⟩
        · rcases List.mem_cons.mp hq with rfl | hq
          · exact a2 p s' (List.getElem?_set_self fl)
          · exact a3 q hq
        · rcases a4 j sj hj with y | y
          · by_cases hjp : j = p
            · exact .inr (a5 j (List.mem_append_right _ (List.mem_singleton.mpr hjp)))
            · have y : (e.found.set p (some s'))[j]? = some (some sj) := y
              rw [List.getElem?_set_ne (fun z => hjp z.symm)] at y
              exact .inl y
          · exact .inr y
        · have a6 : cnt e'.found + (e.left ++ [p]).length = cnt (e.found.set p (some s')) + e'.left.length := a6
          rw [List.length_append, List.length_singleton, hcnt] at a6
          omega
    | some s2 =>
      have hf : e.found[p]? = some (some s2) := by rw [List.getElem?_eq_getElem fl, ho]
      dsimp only
      by_cases hs : s2 = s'
      · rw [if_pos hs]
        subst hs
        obtain ⟨z, k1, k2⟩ := exIn_spec g hr hl hn ht hlast (xs := xs) (fun q hq => hx q (List.mem_cons_of_mem _ hq)) I h1 h2 h3
        refine ⟨z, k1, ?_⟩
        cases z with
        | out q => exact k2
        | go e' =>
          obtain ⟨a1, a2, a3, a4, a5, a6⟩ := k2
          refine ⟨a1, a2, fun q hq => ?_, a4, a5, a6⟩
          rcases List.mem_cons.mp hq with rfl | hq
          · exact a2 p s2 hf
          · exact a3 q hq
      · rw [if_neg hs]
        obtain ⟨w, y1, y2, y3, y4⟩ := I.walk p s2 hf
        rw [y1, h2]
        show ∃ z, ((if wk.length < 1000000 then some (LR.out (Paper.unlike w (wk ++ [p]))) else none : Option (LR Ex Paper)).bind _) = _ ∧ _
        rw [if_pos (by omega)]
        exact ⟨_, rfl, p, s2, s', y2, y3, hT, hT2, hs⟩
theorem exOut_run {c : Code} (g : Good c) : ∀ (m : Nat) (e : Ex), ExInv c e → (∀ i, i ∉ e.left → DoneAt c e i) → (c.length - cnt e.found) + e.left.length ≤ m → ∃ z, runW (exOut c) (m + 1) e = some z ∧ lrP (fun (e' : Ex) => ExInv c e' ∧ ∀ i, DoneAt c e' i) (fun (p : Paper) => Shows c p) z
  | m, e, I, hd, hm => by
    unfold runW
    obtain ⟨found, walks, left⟩ := e
    have few := g.few
    have hc1 := cnt_le (t := found)
    have lenE : found.length = c.length := I.len
    cases left with
    | nil => exact ⟨.go ⟨found, walks, []⟩, rfl, I, fun i => hd i (fun h => by cases h)⟩
    | cons i rest =>
      have hll : (i :: rest).length ≤ cnt found := I.llen
      rw [List.length_cons] at hll
      have hm : (c.length - cnt found) + (rest.length + 1) ≤ m := hm
      obtain ⟨s, hs⟩ := I.left i List.mem_cons_self
      have hs : found[i]? = some (some s) := hs
      obtain ⟨wk, w1, w2, w3, w4⟩ := I.walk i s hs
      have w1 : walks.lookup i = some wk := w1
      have w4 : wk.length ≤ cnt found := w4
      have hi : i < c.length := by
        have := (List.getElem?_eq_some_iff.mp hs).1
        omega
      obtain ⟨r, hr⟩ : ∃ r, c[i]? = some r := ⟨_, List.getElem?_eq_getElem hi⟩
      obtain ⟨l, hn, _⟩ := allNext_some g hr (w2.gs g).1
      obtain ⟨ws, hw⟩ := lacks_of (n := c.length) hn
      have hgl := (w2.gs g).2
      have unf : exOut c ⟨found, walks, i :: rest⟩ = (match (generalizing := false) ws with
        | w :: _ => (walks.lookup i).map fun wk => .out (.word w wk)
        | [] => (allNext (whereL c) r i s).bind fun l => (runL (exIn i) l ⟨found, walks, rest⟩).map fun z => match z with
          | .go e' => .go e'
          | .out p => .out p) := by
        unfold exOut
        dsimp only
        rw [if_pos (by omega), hs]
        show (c[i]?).bind _ = _
        rw [hr]
        show (if s.g.length < 1000000 then _ else none) = _
        rw [if_pos (by omega), hw]
        rfl
      rw [unf]
      cases ws with
      | cons w ws =>
        rw [w1]
        exact ⟨.out (.word w wk), rfl, i, s, r, ws, w2, w3, hr, hw⟩
      | nil =>
        have I2 : ExInv c ⟨found, walks, rest⟩ := ⟨I.len, I.beg, I.walk, I.wlen, fun j hj => I.left j (List.mem_cons_of_mem _ hj), by show rest.length ≤ cnt found; omega⟩
        obtain ⟨z, k1, k2⟩ := exIn_spec g hr hw hn w2 w3 (xs := l) (fun q hq => hq) I2 hs w1 w4
        show ∃ z, ((((allNext (whereL c) r i s).bind fun l => (runL (exIn i) l ⟨found, walks, rest⟩).map _)).bind _) = _ ∧ _
        rw [hn]
        show ∃ z, (((runL (exIn i) l ⟨found, walks, rest⟩).map _).bind _) = _ ∧ _
        rw [k1]
        cases z with
        | out p => exact ⟨.out p, rfl, k2⟩
        | go e' =>
          obtain ⟨a1, a2, a3, a4, a5, a6⟩ := k2
          show ∃ z, runW (exOut c) m e' = some z ∧ _
          have a6 : cnt e'.found + rest.length = cnt found + e'.left.length := a6
          have lenE' := a1.len
          have hc2 := cnt_le (t := e'.found)
          have hm0 : m ≠ 0 := by omega
          obtain ⟨m', rfl⟩ := Nat.exists_eq_succ_of_ne_zero hm0
          refine exOut_run g m' e' a1 (fun j hj sj hsj => ?_) (by omega)
          rcases a4 j sj hsj with y | y
          · have y : found[j]? = some (some sj) := y
            by_cases hji : j = i
            · subst hji
              rw [hs] at y
              cases y
              exact ⟨r, l, hr, hw, hn, a3⟩
            · have hjl : j ∉ (i :: rest) := fun z => by
                rcases List.mem_cons.mp z with z | z
                · exact hji z
                · exact hj (a5 j z)
              obtain ⟨r', l', b1, b2, b3, b4⟩ := hd j hjl sj y
              exact ⟨r', l', b1, b2, b3, fun q hq => a2 _ _ (b4 q hq)⟩
          · exact (hj y).elim
theorem ex0_inv {c : Code} (g : Good c) : ExInv c (ex0 c) ∧ (∀ i, i ∉ (ex0 c).left → DoneAt c (ex0 c) i) ∧ (c.length - cnt (ex0 c).found) + (ex0 c).left.length ≤ c.length := by
  have hp := g.pos
  have h0 : (c.map fun _ => (none : Option St))[0]? = some none := by
    rw [List.getElem?_map, List.getElem?_eq_getElem (by omega)]
    rfl
  have c0 : cnt (c.map fun _ => (none : Option St)) = 0 := by
    unfold cnt
    rw [List.countP_eq_zero]
    intro x hx
    obtain ⟨_, _, rfl⟩ := List.mem_map.mp hx
    exact Bool.false_ne_true
  have hcnt : cnt (ex0 c).found = 1 := by
    show cnt ((c.map fun _ => (none : Option St)).set 0 (some ⟨0, []⟩)) = 1
    rw [cnt_set h0, c0]
  have only : ∀ i s, (ex0 c).found[i]? = some (some s) → i = 0 ∧ s = ⟨0, []⟩ := fun i s h => by
    have h : ((c.map fun _ => (none : Option St)).set 0 (some ⟨0, []⟩))[i]? = some (some s) := h
    by_cases hi : i = 0
    · subst hi
      rw [List.getElem?_set_self (by rw [List.length_map]; omega)] at h
      cases h
      exact ⟨rfl, rfl⟩
    · rw [List.getElem?_set_ne (fun z => hi z.symm), List.getElem?_map] at h
      obtain ⟨_, _, h⟩ := Option.map_eq_some_iff.mp h
      cases h
  have beg : (ex0 c).found[0]? = some (some ⟨0, []⟩) := List.getElem?_set_self (by rw [List.length_map]; omega)
  refine ⟨⟨?_, beg, fun i s h => ?_, ?_, fun i hi => ?_, ?_⟩, fun i hi s h => ?_, ?_⟩
  · show ((c.map fun _ => (none : Option St)).set 0 _).length = _
    rw [List.length_set, List.length_map]
  · obtain ⟨rfl, rfl⟩ := only i s h
    exact ⟨[0], rfl, .base, rfl, by rw [hcnt]; exact Nat.le_refl _⟩
  · rw [hcnt]
    exact Nat.le_refl _
  · rw [List.mem_singleton.mp hi]
    exact ⟨_, beg⟩
  · rw [hcnt]
    exact Nat.le_refl _
  · exact (hi (List.mem_singleton.mpr (only i s h).1)).elim
  · rw [hcnt]
    show (c.length - 1) + 1 ≤ c.length
    omega
theorem explored_spec {c : Code} (g : Good c) : (∃ t, explored c = some (.inl t) ∧ Least c t) ∨ ∃ p, explored c = some (.inr p) ∧ Shows c p := by
  obtain ⟨h1, h2, h3⟩ := ex0_inv g
  obtain ⟨z, k1, k2⟩ := exOut_run g c.length (ex0 c) h1 h2 h3
  unfold explored
  rw [k1]
  cases z with
  | out p => exact .inr ⟨p, rfl, k2⟩
  | go e =>
    obtain ⟨I, D⟩ := k2
    refine .inl ⟨e.found, rfl, I.len, fun i s => ⟨fun h => ?_, fun h => ?_⟩, fun i s h => ?_⟩
    · obtain ⟨wk, _, y1, y2, _⟩ := I.walk i s h
      exact ⟨wk, y1, y2⟩
    all_goals
      have main : ∀ wk s, Trail c wk s → ∀ i, wk.getLast? = some i → e.found[i]? = some (some s) := by
        intro wk s hT
        induction hT with
        | base =>
          intro i hi
          cases hi
          exact I.beg
        | @step wk s s' i p r l h1 h2 h3 h4 h5 h6 ih =>
          intro j hj
          rw [List.getLast?_concat] at hj
          cases hj
          obtain ⟨r', l', b1, b2, b3, b4⟩ := D i s (ih i h2)
          rw [h3] at b1
          cases b1
          rw [h5] at b3
          cases b3
          exact b4 _ h6
      obtain ⟨wk, y1, y2⟩ := h
      have hf := main wk s y1 i y2
    · exact hf
    · obtain ⟨r, l, b1, b2, b3, _⟩ := D i s hf
      exact ⟨r, l, b1, b2, b3⟩
structure Fits (c : Code) (t : Nat → Option St) : Prop where
  beg : t 0 = some ⟨0, []⟩
  go : ∀ i s, t i = some s → ∃ r l, c[i]? = some r ∧ lacks c.length (whereL c) r i s = some [] ∧ allNext (whereL c) r i s = some l ∧ ∀ q, q ∈ l → t q.1 = some q.2
theorem Fits.trail {c : Code} {t : Nat → Option St} (f : Fits c t) {wk : List Nat} {s : St} (h : Trail c wk s) : ∀ i, wk.getLast? = some i → t i = some s := by
  induction h with
  | base =>
    intro i hi
    cases hi
    exact f.beg
  | @step wk s s' i p r l h1 h2 h3 h4 h5 h6 ih =>
    intro j hj
    rw [List.getLast?_concat] at hj
    cases hj
    obtain ⟨r', l', b1, b2, b3, b4⟩ := f.go i s (ih i h2)
    rw [h3] at b1
    cases b1
    rw [h5] at b3
    cases b3
    exact b4 _ h6
theorem Fits.sound {c : Code} {t : Nat → Option St} (g : Good c) (f : Fits c t) : ∃ t', explored c = some (.inl t') ∧ Least c t' := by
  rcases explored_spec g with h | ⟨p, _, hp⟩
  · exact h
  · exfalso
    cases p with
    | word w wk =>
      obtain ⟨i, s, r, ws, h1, h2, h3, h4⟩ := hp
      obtain ⟨r', l', b1, b2, _⟩ := f.go i s (f.trail h1 i h2)
      rw [h3] at b1
      cases b1
      rw [h4] at b2
      cases b2
    | unlike a b =>
      obtain ⟨i, s, s', h1, h2, h3, h4, h5⟩ := hp
      have e1 := f.trail h1 i h2
      have e2 := f.trail h3 i h4
      rw [e1] at e2
      cases e2
      exact h5 rfl
def BIG : Int := 1000000000000000000
def kinds : List Str := ["Oops", "Zero", "Type", "Unset", "Big", "Mine", "Else", "aB", "k", "kk", "kkk", "kkkk", "kkkkk", "kkkkkk", "kkkkkkk", "kkkkkkkk"]
def Val.good : Val → Prop
  | .int i => -BIG ≤ i ∧ i ≤ BIG
  | .str x => x ∈ kinds
  | _ => True
theorem kinds_strOk {x : Str} (h : x ∈ kinds) : PyData.strOk x = true := by
  have : ∀ x, x ∈ kinds → PyData.strOk x = true := by decide +kernel
  exact this x h
structure CodeOk (c : Code) : Prop where
  pos : 1 ≤ c.length
  few : c.length ≤ 150
  rows : ∀ r, r ∈ c → r.ok = true ∧ r.fits
  vals : ∀ v l, Row.push v l ∈ c → v.good
  hop : ∀ r, r ∈ c → r.isHop = true → ∃ l, Row.label r.mark l ∈ c
  lab : ((c.filter Row.isLabel).map Row.mark).Nodup
theorem CodeOk.good {c : Code} (h : CodeOk c) : Good c := ⟨h.pos, by have := h.few; omega, fun r hr hh => by
  obtain ⟨l, hl⟩ := h.hop r hr hh
  obtain ⟨i, hi⟩ := List.mem_iff_getElem?.mp hl
  exact where_has hi⟩
theorem CodeOk.fits {c : Code} (h : CodeOk c) : c.fits := ⟨by have := h.few; omega, fun r hr => (h.rows r hr).2⟩
theorem bp_go {ms : List Nat} : ∀ {xs : List Row} {k : Nat} {seen : List Nat}, (∀ r, r ∈ xs → r.ok = true) → (∀ r, r ∈ xs → r.isHop = true → r.mark ∈ ms) → (seen ++ (xs.filter Row.isLabel).map Row.mark).Nodup → seen.length + xs.length ≤ 1000 → ∃ s, runL (bpStep ms) (enumF k xs) seen = some (.go s)
  | [], k, seen, _, _, _, _ => ⟨seen, rfl⟩
  | r :: xs, k, seen, h1, h2, h3, h4 => by
    rw [List.length_cons] at h4
    show ∃ s, (bpStep ms seen (k, r)).bind _ = _
    have e1 : (!r.ok || (r.isHop && !decide (r.mark ∈ ms))) = false := by
      rw [h1 r List.mem_cons_self]
      cases hh : r.isHop with
      | false => rfl
      | true => rw [decide_eq_true (h2 r List.mem_cons_self hh)]; rfl
    unfold bpStep
    dsimp only
    rw [e1, if_neg Bool.false_ne_true]
    cases hl : r.isLabel with
    | false =>
      rw [if_neg Bool.false_ne_true]
      refine bp_go (fun r hr => h1 r (List.mem_cons_of_mem _ hr)) (fun r hr => h2 r (List.mem_cons_of_mem _ hr)) ?_ (by omega)
      rw [List.filter_cons_of_neg (by rw [hl]; exact Bool.false_ne_true)] at h3
      exact h3
    | true =>
      rw [List.filter_cons_of_pos hl, List.map_cons] at h3
      have hn : r.mark ∉ seen := fun z => (List.nodup_append.mp h3).2.2 _ z _ List.mem_cons_self rfl
      rw [if_pos rfl, if_neg hn, if_pos (by omega)]
      refine bp_go (fun r hr => h1 r (List.mem_cons_of_mem _ hr)) (fun r hr => h2 r (List.mem_cons_of_mem _ hr)) ?_ (by rw [List.length_append, List.length_singleton]; omega)
      rw [List.append_assoc]
      exact h3
theorem CodeOk.place {c : Code} (h : CodeOk c) : badPlace c = some none := by
  unfold badPlace
  obtain ⟨s, hs⟩ := bp_go (ms := labelMarks c) (xs := c) (k := 0) (seen := []) (fun r hr => (h.rows r hr).1) (fun r hr hh => by
    obtain ⟨l, hl⟩ := h.hop r hr hh
    unfold labelMarks
    refine List.mem_filterMap.mpr ⟨_, hl, ?_⟩
    rw [(h.rows _ hl).1]
    rfl) (by rw [List.nil_append]; exact h.lab) (by have := h.few; rw [List.length_nil]; omega)
  rw [hs]
  rfl
theorem eq0_Val {v : Val} (h : v.good) : Eq0 0 v.d := by
  cases v with
  | non => exact Eq0.none
  | bool b => exact Eq0.bool
  | int i => exact Eq0.int
  | str x => exact Eq0.str (kinds_strOk h)
def reckV : POp → Int → Int → Int
  | .add, i, j => i + j
  | .sub, i, j => i - j
  | .mul, i, j => i * j
  | .div, i, j => i.fdiv j
  | _, i, j => i.fmod j
def bigV (x : Int) : Val ⊕ Str := if -BIG ≤ x ∧ x ≤ BIG then .inl (.int x) else .inr "Big"
def numV (o : POp) (i j : Int) : Val ⊕ Str := if o = .less then .inl (.bool (decide (i < j))) else if (o = .div ∨ o = .rest) ∧ j = 0 then .inr "Zero" else bigV (reckV o i j)
def pairedV (o : POp) (a b : Val) : Val ⊕ Str := if o = .same then .inl (.bool (decide (a = b))) else match a, b with
  | .int i, .int j => numV o i j
  | _, _ => .inr "Type"
def Val.tr : Val → Bool
  | .non => false
  | .bool b => b
  | .int i => !decide (i = 0)
  | .str _ => true
theorem divX_ok {i j : Int} (hj : -BIG ≤ j ∧ j ≤ BIG) (h0 : j ≠ 0) : dDivX [.int i, .int j] = some (.int (i.fdiv j)) := by
  unfold BIG at hj
  show opIc _ _ [.int i, .int j] = _
  unfold opIc
  simp only [decide_eq_true_eq]
  have hl : j.natAbs.log2 < 9000 := by
    have h0 : j.natAbs ≠ 0 := by omega
    have : j.natAbs < 2 ^ 64 := by omega
    have := (Nat.log2_lt h0).mpr this
    omega
  rw [if_pos ⟨h0, hl⟩]
def singleV (o : BOp) (v : Val) : Val ⊕ Str := if o = .not then .inl (.bool (!v.tr)) else match v with
  | .int i => .inl (.int (0 - i))
  | _ => .inr "Type"
section
variable {ρ : En} {i n : Nat} {m mi mb : M} {ma : MA}
theorem v_callM {nc np : Nat} {mf : En → Option (D × En)} : mCallM nc np mf ma ρ = (ma ρ).bind fun p => (mf ((none :: p.1.map some) ++ p.2.drop nc)).bind fun z => some (z.1, p.2.take nc ++ z.2.drop np) := rfl
def kMet (n c : Nat) (r : Ak) (p : Fl × En) : Option (D × En) := match p.1 with
  | .rt d => some (d, outM n c p.2)
  | .nx => (match r with
    | .fz => some (.none, outM n c p.2)
    | _ => none)
  | _ => none
theorem kMet_rt {n c : Nat} {r : Ak} {d : D} : kMet n c r (.rt d, ρ) = some (d, outM n c ρ) := rfl
theorem kMet_nx {n c : Nat} : kMet n c .fz (.nx, ρ) = some (.none, outM n c ρ) := rfl
theorem v_met {n c : Nat} {r : Ak} {b : MS} : mMet n c r b ρ = (b (entM n c ρ)).bind (kMet n c r) := rfl
theorem v_entM {n c : Nat} : entM n c ρ = ρ.take n ++ (List.replicate c none ++ ρ.drop n) := rfl
theorem v_outM {n c : Nat} : outM n c ρ = List.replicate n none ++ ρ.drop (n + c) := rfl
def kIx (i : Nat) (d : D) (q : D × En) (c : D) : Option En := match q.1, c with
  | .int j, .list ds => (ixN ds.length j).bind fun n => some (q.2.set i (some (.list (ds.set n d))))
  | _, _ => none
theorem kIx_i {j : Int} {d : D} {ds : List D} : kIx i d (.int j, ρ) (.list ds) = (ixN ds.length j).bind fun n => some (ρ.set i (some (.list (ds.set n d)))) := rfl
theorem v_gIx {d : D} : mgIx i mi d ρ = (at? ρ i).bind fun _ => (mi ρ).bind fun q => (at? q.2 i).bind (kIx i d q) := by
  unfold mgIx
  rw [v_br, Option.bind_assoc]
  congr 1
  funext x
  show (mi ρ).bind _ = _
  congr 1
  funext q
  obtain ⟨d0, ρ2⟩ := q
  unfold at?
  cases d0 <;> cases h : ρ2[i]? with
  | none => rfl
  | some o =>
    cases o with
    | none => rfl
    | some c => cases c <;> first | rfl | exact Option.map_eq_bind ..
end
local macro_rules | `(tactic| exists $es,*) => `(tactic| simp only [v_var, v_mv, v_br, v_C, v_aNil, v_aCons, v_op, v_m1, v_m2, v_tr, v_and, v_or, v_not, v_andV, v_orV, v_notV, v_if, v_tup, v_lst, v_seq, v_skip, v_break, v_cont, v_drop, v_ret, v_ite, v_set, v_fz, v_th, v_asg, v_aug, v_call, v_fun, v_mut, v_no, v_pt, v_sl, v_chain, v_itL, v_for, v_lc, v_itU, v_it2, v_dc, v_callM, v_met, v_entM, v_outM, kMet_rt, kMet_nx, v_gIx, kIx_i, List.take_succ_cons, List.take_zero, List.drop_succ_cons, List.drop_zero, v_putU, v_disp, v_pCons, v_pNil,
  kTr_b, kSeq_nx, kSeq_rt, kSeq_bk, kSeq_ct, kFun_rt, kFun_nx, kPt_i, kSl_1, kCh_i, kCh2_i, kItL_l, kItU_l, kItU_t, kItU_s, Option.bind_some, Option.bind_none, at_zero, at_succ, at_nil, fill_nil, fill_fz, fill_ow, fill_br, Option.map_some, List.set_cons_zero, List.set_cons_succ, List.set_nil, List.map_cons, List.map_nil, List.cons_append, List.nil_append, List.append_nil, List.replicate_succ, List.replicate_zero, putB_nil, putB_br, putB_fz, putB_ow, outE_nil, outE_fz, outE_io, mgN_e, mgNil_e, mgCons_e, mgT_e, mgL_e, List.length_cons, List.length_nil, if_true, if_false, reduceIte, Bool.false_eq_true, Bool.not_true, Bool.not_false, decide_true, decide_false, dSub_i, dAdd_i, dAddU_i, dLt_i, dLe_i, dGt_i, dGe_i, dNeg_i, row_0, row_1, row_2, row_3, st_0, st_1, st_2, o_jump, o_branch, o_if, o_try, o_endtry, o_end, o_ncopy, o_faulty, o_counted, o_nm, o_label, o_hop, o_push, takes_ok, grows_ok, ix_gs, sl_gs, dEq_gs, dNe_gs, ix_wh, isTy_l, isTup_row, len_row, dEnum_map, Bool.true_and, Bool.false_and, Bool.and_true, Bool.and_false, $[$es:term],*])
section
variable {α : Type} {f : α → D}
def dictLS (f : α → D) (w : List (Str × α)) : List (D × D) := w.map fun p => (PyData.str p.1, f p.2)
def dictDS (f : α → D) (w : List (Str × α)) : D := .dict (dictLS f w)
def putAS (m : Str) (a : α) (w : List (Str × α)) : List (Str × α) := if (w.lookup m).isSome = true then w.map (fun p => if p.1 = m then (p.1, a) else p) else w ++ [(m, a)]
end
abbrev hD (w : List (Str × Val)) : D := dictDS Val.d w
section
variable {A0 A1 A2 A3 A4 A5 A6 A7 A8 A9 : Option D}
def resP (p : List Val) : Val ⊕ Str → List Val
  | .inl v => v :: p
  | .inr _ => p
def JOp.takes (o : JOp) (v : Val) : Bool := if o = .iftrue ∨ o = .ortrue then v.tr else !v.tr
def JOp.isIf (o : JOp) : Bool := match o with
  | .iftrue => true
  | .iffalse => true
  | _ => false
end
inductive End where
  | on
  | value (v : Val)
  | fault (k : Str) (l : Nat)
  deriving DecidableEq
def End.d : End → D
  | .on => .tuple [.str "on"]
  | .value v => .tuple [.str "value", v.d]
  | .fault k l => .tuple [.str "fault", .str k, dN l]
structure Mc where
  at_ : Nat
  pile : List Val
  sh : List (Nat × Int)
  held : List (Str × Val)
  out : List Val
  trail : List Nat
  last : End
def Row.isJmp : Row → Bool
  | .jmp _ _ _ => true
  | _ => false
section
variable {r : Row}
end
def kindK : Val ⊕ Str → Option Str
  | .inl _ => none
  | .inr k => some k
def kindOf : Val → Str
  | .str x => x
  | _ => "Type"
def doneM (c : Code) (r : Row) (m : Mc) : Option (Option Str × Mc) := match r with
  | .pr o _ => (match m.pile with
    | b :: a :: p => some (kindK (pairedV o a b), { m with pile := resP p (pairedV o a b) })
    | _ => none)
  | .bare .neg _ => (match m.pile with
    | a :: p => some (kindK (singleV .neg a), { m with pile := resP p (singleV .neg a) })
    | _ => none)
  | .bare .not _ => (match m.pile with
    | a :: p => some (kindK (singleV .not a), { m with pile := resP p (singleV .not a) })
    | _ => none)
  | .bare .ret _ => (match m.pile with
    | v :: p => some (none, { m with pile := p, last := .value v })
    | _ => none)
  | .bare .rais _ => (match m.pile with
    | v :: p => some (some (kindOf v), { m with pile := p })
    | _ => none)
  | .bare .drop _ => (match m.pile with
    | _ :: p => some (none, { m with pile := p })
    | _ => none)
  | .bare .tell _ => (match m.pile with
    | v :: p => some (none, { m with pile := p, out := m.out ++ [v] })
    | _ => none)
  | .nm .store n _ => (match m.pile with
    | v :: p => some (none, { m with pile := p, held := putAS n v m.held })
    | _ => none)
  | .nm .quick n _ => some (none, { m with pile := ((m.held.lookup n).getD .non) :: m.pile })
  | .nm .load n _ => (match m.held.lookup n with
    | none => some (some "Unset", m)
    | some v => some (none, { m with pile := v :: m.pile }))
  | .nm .clear n _ => (match m.held.lookup n with
    | none => some (some "Unset", m)
    | some _ => some (none, { m with held := m.held.filter fun p => decide (p.1 ≠ n) }))
  | .jmp .jump mk _ => ((whereL c).lookup mk).map fun q => (none, { m with at_ := q })
  | .jmp o mk _ => (match m.pile with
    | v :: p => ((whereL c).lookup mk).map fun q => (none, { m with pile := (if (o.takes v && !o.isIf) = true then v :: p else p), at_ := (if o.takes v = true then q else m.at_) })
    | _ => none)
  | .push v _ => some (none, { m with pile := v :: m.pile })
  | .copy n _ => if 1 ≤ n then (m.pile[n - 1]?).map fun v => (none, { m with pile := v :: m.pile }) else none
  | .swap n _ => if 1 ≤ n then (m.pile[0]?).bind fun x => (m.pile[n - 1]?).map fun y => (none, { m with pile := (m.pile.set 0 y).set (n - 1) x }) else none
  | _ => none
structure McOk (m : Mc) : Prop where
  vals : ∀ v, v ∈ m.pile → v.good
  pile : m.pile.length < 1000000
  held : m.held.length < 1000000
  out : m.out.length < 1000000
section
variable {A0 A1 A2 A3 A4 A5 A6 A7 A8 A9 : Option D} {l : Nat}
end
theorem p62 : (2 : Int) ^ 62 = 4611686018427387904 := by decide +kernel
section
variable {A0 A1 A2 A3 A4 A5 A6 A7 A8 A9 : Option D}
def faultM (c : Code) (k : Str) (l : Nat) (m : Mc) : Option Mc := match m.sh with
  | [] => some { m with last := .fault k l }
  | x :: g => if 0 ≤ x.2 then ((whereL c).lookup x.1).map fun q => { m with sh := g, pile := .str k :: m.pile.drop (m.pile.length - x.2.toNat), at_ := q } else none
def passStep (c : Code) (m : Mc) : Option (WR Mc Unit) := (c[m.at_]?).bind fun r => match r with
  | .tri mk _ => if m.sh.length < 1000000 then some (.go { m with sh := (mk, (m.pile.length : Int)) :: m.sh, at_ := m.at_ + 1 }) else none
  | .endtry _ => (match m.sh with
    | [] => none
    | _ :: g => some (.go { m with sh := g, at_ := m.at_ + 1 }))
  | .label _ _ => some (.go { m with at_ := m.at_ + 1 })
  | _ => some (.stop m)
def passM (c : Code) (m : Mc) : Option Mc := (runW (passStep c) (c.length + 2) m).bind fun z => match z with
  | .go m => some m
  | .out _ => none
def Row.isPseudo : Row → Bool
  | .tri _ _ => true
  | .endtry _ => true
  | .label _ _ => true
  | _ => false
end
def End.good : End → Prop
  | .on => True
  | .value v => v.good
  | .fault k _ => k ∈ kinds
def kindM (c : Code) (l : Nat) (m : Mc) : Option Str → Option Mc
  | none => some m
  | some k => faultM c k l m
def stepM (c : Code) (m : Mc) : Option Mc := (c[m.at_]?).bind fun r => (doneM c r { m with trail := m.trail ++ [m.at_], at_ := m.at_ + 1 }).bind fun z => (kindM c r.line z.2 z.1).bind fun (m3 : Mc) => if m3.last = End.on then passM c m3 else some m3
structure McIn (m : Mc) : Prop where
  ok : McOk m
  pile : m.pile.length < 900000
  trail : m.trail.length < 1000000
  last : m.last.good
theorem strOk_app {a b : Str} (ha : PyData.strOk a = true) (hb : PyData.strOk b = true) : PyData.strOk (a ++ b) = true := by
  show Array.all (a.cps ++ b.cps) _ = true
  rw [Array.all_append]
  show (PyData.strOk a && PyData.strOk b) = true
  rw [ha, hb]
  rfl
structure McIv (n : Nat) (m : Mc) : Prop where
  pile : ∀ v, v ∈ m.pile → v.good
  held : ∀ p, p ∈ m.held → p.2.good
  out : ∀ v, v ∈ m.out → v.good
  pl : m.pile.length ≤ m.trail.length + n
  hl : m.held.length ≤ m.trail.length + n
  ol : m.out.length ≤ m.trail.length
  last : m.last.good
local macro_rules | `(tactic| exists $es,*) => `(tactic| simp -implicitDefEqProofs only [v_var, v_mv, v_br, v_C, v_aNil, v_aCons, v_op, v_m1, v_m2, v_tr, v_and, v_or, v_not, v_andV, v_orV, v_notV, v_if, v_tup, v_lst, v_seq, v_skip, v_break, v_cont, v_drop, v_ret, v_ite, v_set, v_fz, v_th, v_asg, v_aug, v_call, v_fun, v_mut, v_no, v_pt, v_sl, v_chain, v_itL, v_for, v_lc, v_itU, v_it2, v_dc, v_callM, v_met, v_entM, v_outM, kMet_rt, kMet_nx, v_gIx, kIx_i, List.take_succ_cons, List.take_zero, List.drop_succ_cons, List.drop_zero, v_putU, v_disp, v_pCons, v_pNil,
  kTr_b, kSeq_nx, kSeq_rt, kSeq_bk, kSeq_ct, kFun_rt, kFun_nx, kPt_i, kSl_1, kCh_i, kCh2_i, kItL_l, kItU_l, kItU_t, kItU_s, Option.bind_some, Option.bind_none, at_zero, at_succ, at_nil, fill_nil, fill_fz, fill_ow, fill_br, Option.map_some, List.set_cons_zero, List.set_cons_succ, List.set_nil, List.map_cons, List.map_nil, List.cons_append, List.nil_append, List.append_nil, List.replicate_succ, List.replicate_zero, putB_nil, putB_br, putB_fz, putB_ow, outE_nil, outE_fz, outE_io, mgN_e, mgNil_e, mgCons_e, mgT_e, mgL_e, List.length_cons, List.length_nil, if_true, if_false, reduceIte, Bool.false_eq_true, Bool.not_true, Bool.not_false, decide_true, decide_false, dSub_i, dAdd_i, dAddU_i, dLt_i, dLe_i, dGt_i, dGe_i, dNeg_i, row_0, row_1, row_2, row_3, st_0, st_1, st_2, o_jump, o_branch, o_if, o_try, o_endtry, o_end, o_ncopy, o_faulty, o_counted, o_nm, o_label, o_hop, o_push, takes_ok, grows_ok, ix_gs, sl_gs, dEq_gs, dNe_gs, ix_wh, isTy_l, isTup_row, len_row, dEnum_map, Bool.true_and, Bool.false_and, Bool.and_true, Bool.and_false, $[$es:term],*])
theorem runW_inv {S R : Type} {step : S → Option (WR S R)} (I : S → Prop) (hs : ∀ s z, I s → step s = some z → wrP I I (fun _ => True) z) : ∀ {n : Nat} {s : S} {z : LR S R}, I s → runW step n s = some z → lrP I (fun _ => True) z
  | 0, _, _, _, h => by cases h
  | n + 1, s, z, hI, h => by
    obtain ⟨y, h1, h2⟩ := Option.bind_eq_some_iff.mp h
    have e := hs s y hI h1
    cases y with
    | go s' => exact runW_inv I hs (n := n) e h2
    | stop s' =>
      cases h2
      exact e
    | out r =>
      cases h2
      exact trivial
def Mc.like (m m' : Mc) : Prop := m'.pile = m.pile ∧ m'.held = m.held ∧ m'.out = m.out ∧ m'.trail = m.trail ∧ m'.last = m.last
theorem passM_like {c : Code} {m m' : Mc} (h : passM c m = some m') : m.like m' := by
  unfold passM at h
  obtain ⟨z, h1, h2⟩ := Option.bind_eq_some_iff.mp h
  have k := runW_inv (fun m' => m.like m') (fun s y hI hy => by
    obtain ⟨i1, i2, i3, i4, i5⟩ := hI
    obtain ⟨r, e1, e2⟩ := Option.bind_eq_some_iff.mp hy
    cases r with
    | tri mk l =>
      dsimp only at e2
      split at e2
      · cases e2
        exact ⟨i1, i2, i3, i4, i5⟩
      · cases e2
    | endtry l =>
      dsimp only at e2
      split at e2
      · cases e2
      · cases e2
        exact ⟨i1, i2, i3, i4, i5⟩
    | label mk l =>
      cases e2
      exact ⟨i1, i2, i3, i4, i5⟩
    | _ =>
      cases e2
      exact ⟨i1, i2, i3, i4, i5⟩) ⟨rfl, rfl, rfl, rfl, rfl⟩ h1
  cases z with
  | go m2 =>
    cases h2
    exact k
  | out u => cases h2
abbrev Mc.grown (m : Mc) : Mc := { m with trail := m.trail ++ [m.at_], at_ := m.at_ + 1 }
def runStep (c : Code) (steps : Nat) (m : Mc) : Option (WR Mc Unit) := if m.trail.length < steps then (if m.last = .on then (stepM c m).map .go else some (.stop m)) else some (.stop m)
def mc0 (names : List (Str × Val)) : Mc := ⟨0, [], [], names, [], [], .on⟩
def runM (c : Code) (names : List (Str × Val)) (steps : Nat) : Option Mc := (passM c (mc0 names)).bind fun m => (runW (runStep c steps) (steps + 2) m).bind fun z => match z with
  | .go m => some m
  | .out _ => none
structure NamesOk (names : List (Str × Val)) : Prop where
  few : names.length ≤ 8
  ok : ∀ p, p ∈ names → nameOk p.1 = true ∧ p.1.cps.size ≤ 100000 ∧ p.2.good
theorem NamesOk.good {names : List (Str × Val)} (h : NamesOk names) : ∀ p, p ∈ names → p.2.good := fun p hp => (h.ok p hp).2.2
def Stk : Int → List (Nat × Int) → Prop
  | d, [] => 0 ≤ d
  | d, x :: g => x.2 ≤ d ∧ Stk x.2 g
theorem Stk.pos : ∀ {g : List (Nat × Int)} {d : Int}, Stk d g → 0 ≤ d
  | [], _, h => h
  | x :: g, d, h => Int.le_trans (Stk.pos h.2) h.1
theorem Stk.up {g : List (Nat × Int)} {d e : Int} (h : Stk d g) (he : d ≤ e) : Stk e g := by
  cases g with
  | nil => exact Int.le_trans h he
  | cons x g => exact ⟨Int.le_trans h.1 he, h.2⟩
theorem Stk.tail {g : List (Nat × Int)} {d : Int} (h : Stk d g) : Stk d g.tail := by
  cases g with
  | nil => exact h
  | cons x g => exact h.2.up h.1
structure Fine (r : Row) (s : St) : Prop where
  takes : (r.takes : Int) ≤ s.d
  guard : r.isEndtry = true → s.g ≠ []
  beneath : beneath r s = false
theorem fine_of {n : Nat} {w : List (Nat × Nat)} {r : Row} {i : Nat} {s : St} (h : lacks n w r i s = some []) : Fine r s := by
  unfold lacks at h
  obtain ⟨l, _, h⟩ := Option.map_eq_some_iff.mp h
  obtain ⟨h, _⟩ := List.append_eq_nil_iff.mp h
  obtain ⟨h, h3⟩ := List.append_eq_nil_iff.mp h
  obtain ⟨h1, h2⟩ := List.append_eq_nil_iff.mp h
  refine ⟨?_, fun e z => ?_, ?_⟩
  · by_cases h4 : s.d < (r.takes : Int)
    · rw [if_pos h4] at h1
      cases h1
    · omega
  · rw [e, z] at h2
    cases h2
  · cases hb : beneath r s with
    | false => rfl
    | true =>
      rw [hb] at h3
      cases h3
theorem beneath_of {r : Row} {s : St} {x : Nat × Int} {g : List (Nat × Int)} (hg : s.g = x :: g) (h : beneath r s = false) (hc : r.isCopy = false) (ht : 0 < r.takes) : x.2 ≤ s.d - r.takes := by
  unfold beneath at h
  rw [hg, hc] at h
  simp only [Bool.not_false, Bool.true_and, decide_eq_true ht, Bool.true_and] at h
  have := of_decide_eq_false h
  omega
theorem stk_keep {r : Row} {s : St} {d : Int} (f : Fine r s) (h : Stk s.d s.g) (hd : s.d - r.takes ≤ d) (h0 : r.isCopy = true ∨ r.takes = 0 → s.d ≤ d) : Stk d s.g := by
  cases hg : s.g with
  | nil =>
    have := f.takes
    show 0 ≤ d
    omega
  | cons x g =>
    rw [hg] at h
    refine ⟨?_, h.2⟩
    by_cases hc : r.isCopy = true ∨ r.takes = 0
    · exact Int.le_trans h.1 (h0 hc)
    · have hc1 : r.isCopy = false := by
        cases e : r.isCopy with
        | false => rfl
        | true => exact (hc (.inl e)).elim
      have := beneath_of hg f.beneath hc1 (by
        have : r.takes ≠ 0 := fun z => hc (.inr z)
        omega)
      omega
theorem grows_takes (r : Row) : -(r.takes : Int) ≤ r.grows ∧ (r.isCopy = true ∨ r.takes = 0 → 0 ≤ r.grows) := by
  cases r with
  | nm o n l => cases o <;> simp [Row.takes, Row.grows, Row.isCopy]
  | jmp o m l => cases o <;> simp [Row.takes, Row.grows, Row.isCopy]
  | pr o l => simp [Row.takes, Row.grows, Row.isCopy]
  | bare o l => cases o <;> simp [Row.takes, Row.grows, Row.isCopy]
  | _ => simp [Row.takes, Row.grows, Row.isCopy] <;> omega
theorem plain_stk {w : List (Nat × Nat)} {r : Row} {i : Nat} {s : St} {l : List (Nat × St)} (f : Fine r s) (h : Stk s.d s.g) (hl : plainNext w r i s = some l) : ∀ q, q ∈ l → Stk q.2.d q.2.g ∧ q.2.d ≤ s.d + 1 := by
  unfold plainNext at hl
  split at hl
  · obtain ⟨p, _, rfl⟩ := Option.map_eq_some_iff.mp hl
    intro q hq
    rw [List.mem_singleton.mp hq]
    exact ⟨h, by show s.d ≤ s.d + 1; omega⟩
  · split at hl
    · rename_i hb
      obtain ⟨p, _, rfl⟩ := Option.map_eq_some_iff.mp hl
      have ht : r.takes = 1 ∧ r.isCopy = false := by
        cases r with
        | jmp o m l => cases o <;> first | exact ⟨rfl, rfl⟩ | cases hb
        | _ => cases hb
      have h1 : Stk (s.d - 1) s.g := stk_keep f h (by rw [ht.1]; exact Int.le_refl _) (fun z => by
        rcases z with z | z
        · rw [ht.2] at z
          cases z
        · rw [ht.1] at z
          cases z)
      intro q hq
      rcases List.mem_cons.mp hq with rfl | hq
      · exact ⟨h1, by show s.d - 1 ≤ s.d + 1; omega⟩
      · rw [List.mem_singleton.mp hq]
        show Stk (s.d - (if r.isIf then 1 else 0)) s.g ∧ s.d - (if r.isIf then 1 else 0) ≤ s.d + 1
        split
        · exact ⟨h1, by omega⟩
        · exact ⟨h.up (by omega), by omega⟩
    · split at hl
      · cases hl
        intro q hq
        rw [List.mem_singleton.mp hq]
        exact ⟨⟨Int.le_refl _, h⟩, by show s.d ≤ s.d + 1; omega⟩
      · split at hl
        · cases hl
          intro q hq
          rw [List.mem_singleton.mp hq]
          exact ⟨h.tail, by show s.d ≤ s.d + 1; omega⟩
        · split at hl
          · cases hl
            intro q hq
            cases hq
          · cases hl
            intro q hq
            rw [List.mem_singleton.mp hq]
            obtain ⟨g1, g2⟩ := grows_takes r
            have g3 : r.grows ≤ 1 := by
              cases r with
              | nm o n l => cases o <;> simp [Row.grows]
              | jmp o m l => simp [Row.grows]
              | pr o l => simp [Row.grows]
              | bare o l => cases o <;> simp [Row.grows]
              | _ => simp [Row.grows]
            exact ⟨stk_keep (r := r) (s := s) (d := s.d + r.grows) f h (by omega) (fun z => by have := g2 z; omega), by show s.d + r.grows ≤ s.d + 1; omega⟩
theorem all_stk {w : List (Nat × Nat)} {r : Row} {i : Nat} {s : St} {l : List (Nat × St)} (f : Fine r s) (h : Stk s.d s.g) (hl : allNext w r i s = some l) : ∀ q, q ∈ l → Stk q.2.d q.2.g ∧ q.2.d ≤ s.d + 1 := by
  unfold allNext at hl
  obtain ⟨l0, h1, h2⟩ := Option.bind_eq_some_iff.mp hl
  have h3 := plain_stk f h h1
  obtain ⟨d, gs⟩ := s
  cases gs with
  | nil =>
    cases h2
    exact h3
  | cons x g =>
    dsimp only at h2
    split at h2
    · obtain ⟨p, _, rfl⟩ := Option.map_eq_some_iff.mp h2
      intro q hq
      rcases List.mem_append.mp hq with hq | hq
      · exact h3 q hq
      · rw [List.mem_singleton.mp hq]
        refine ⟨h.2.up (by show x.2 ≤ x.2 + 1; omega), ?_⟩
        have : x.2 ≤ d := h.1
        show x.2 + 1 ≤ d + 1
        omega
    · cases h2
      exact h3
theorem Trail.stk {c : Code} {wk : List Nat} {s : St} (h : Trail c wk s) : Stk s.d s.g ∧ s.d < wk.length := by
  induction h with
  | base => exact ⟨Int.le_refl _, by decide⟩
  | @step wk s s' i p r l h1 h2 h3 h4 h5 h6 ih =>
    obtain ⟨a, b⟩ := all_stk (fine_of h4) ih.1 h5 _ h6
    refine ⟨a, ?_⟩
    have b : s'.d ≤ s.d + 1 := b
    have := ih.2
    rw [List.length_append, List.length_singleton]
    omega
structure Sound (c : Code) : Prop where
  ok : CodeOk c
  fits : ∀ i s, Reach c i s → ∃ r l, c[i]? = some r ∧ lacks c.length (whereL c) r i s = some [] ∧ allNext (whereL c) r i s = some l
  one : ∀ i s s', Reach c i s → Reach c i s' → s = s'
  short : ∀ i s, Reach c i s → s.g.length ≤ c.length ∧ s.d ≤ c.length
theorem Sound.of_least {c : Code} (ok : CodeOk c) {t : List (Option St)} (h : explored c = some (.inl t)) (L : Least c t) : Sound c := by
  refine ⟨ok, L.fits, fun i s s' h1 h2 => ?_, fun i s hr => ?_⟩
  · have e1 := (L.iff i s).mpr h1
    have e2 := (L.iff i s').mpr h2
    rw [e1] at e2
    cases e2
    rfl
  · -- the walk that explored keeps
    obtain ⟨h1, h2, h3⟩ := ex0_inv ok.good
    obtain ⟨z, k1, k2⟩ := exOut_run ok.good c.length (ex0 c) h1 h2 h3
    unfold explored at h
    rw [k1] at h
    cases z with
    | out p => cases h
    | go e =>
      have h : some (Sum.inl e.found) = some (Sum.inl t) := h
      cases h
      obtain ⟨wk, _, y1, y2, y3⟩ := k2.1.walk i s ((L.iff i s).mpr hr)
      have := cnt_le (t := e.found)
      have := k2.1.len
      have := (y1.gs ok.good).2
      have := y1.stk.2
      omega
theorem Reach.stk {c : Code} {i : Nat} {s : St} (h : Reach c i s) : Stk s.d s.g := by
  obtain ⟨wk, h1, _⟩ := h
  exact h1.stk.1
theorem Reach.gs {c : Code} (g : Good c) {i : Nat} {s : St} (h : Reach c i s) : GsOk c s.g := by
  obtain ⟨wk, h1, _⟩ := h
  exact (h1.gs g).1
theorem Reach.next {c : Code} {i : Nat} {s : St} {r : Row} {l : List (Nat × St)} {q : Nat × St} (h : Reach c i s) (h1 : c[i]? = some r) (h2 : lacks c.length (whereL c) r i s = some []) (h3 : allNext (whereL c) r i s = some l) (hq : q ∈ l) : Reach c q.1 q.2 := by
  obtain ⟨wk, y1, y2⟩ := h
  exact ⟨wk ++ [q.1], .step y1 y2 h1 h2 h3 hq, List.getLast?_concat⟩
def AtR (c : Code) (m : Mc) : Prop := Reach c m.at_ ⟨(m.pile.length : Int), m.sh⟩
def Ready (c : Code) (m : Mc) : Prop := AtR c m ∧ ∃ r, c[m.at_]? = some r ∧ r.isPseudo = false
theorem pass_total {c : Code} (S : Sound c) : ∀ (n : Nat) (m : Mc), AtR c m → c.length ≤ m.at_ + n → ∃ m', runW (passStep c) (n + 1) m = some (.go m') ∧ Ready c m'
  | n, m, h, hn => by
    obtain ⟨r, l, h1, h2, h3⟩ := S.fits _ _ h
    have hi := (List.getElem?_eq_some_iff.mp h1).1
    have hn0 : n ≠ 0 := by omega
    obtain ⟨n', rfl⟩ := Nat.exists_eq_succ_of_ne_zero hn0
    have f := fine_of h2
    have hend := lacks_end h3 h2
    have hs := S.short _ _ h
    have few := S.ok.few
    obtain ⟨at_, pile, sh, held, out, trail, last⟩ := m
    have h1 : c[at_]? = some r := h1
    have step : ∀ (m2 : Mc), passStep c ⟨at_, pile, sh, held, out, trail, last⟩ = some (.go m2) → AtR c m2 → m2.at_ = at_ + 1 → ∃ m', runW (passStep c) (n' + 1 + 1) ⟨at_, pile, sh, held, out, trail, last⟩ = some (.go m') ∧ Ready c m' := fun m2 e hm ha => by
      obtain ⟨m', k1, k2⟩ := pass_total S n' m2 hm (by rw [ha]; have hn : c.length ≤ at_ + (n' + 1) := hn; omega)
      refine ⟨m', ?_, k2⟩
      show (passStep c _).bind _ = _
      rw [e]
      exact k1
    have stop : r.isPseudo = false → passStep c ⟨at_, pile, sh, held, out, trail, last⟩ = some (.stop ⟨at_, pile, sh, held, out, trail, last⟩) → ∃ m', runW (passStep c) (n' + 1 + 1) ⟨at_, pile, sh, held, out, trail, last⟩ = some (.go m') ∧ Ready c m' := fun hr e => by
      refine ⟨_, ?_, h, r, h1, hr⟩
      show (passStep c _).bind _ = _
      rw [e]
      rfl
    have un : passStep c ⟨at_, pile, sh, held, out, trail, last⟩ = (match (generalizing := false) r with
      | .tri mk _ => if sh.length < 1000000 then some (.go ⟨at_ + 1, pile, (mk, (pile.length : Int)) :: sh, held, out, trail, last⟩) else none
      | .endtry _ => (match (generalizing := false) sh with
        | [] => none
        | _ :: g => some (.go ⟨at_ + 1, pile, g, held, out, trail, last⟩))
      | .label _ _ => some (.go ⟨at_ + 1, pile, sh, held, out, trail, last⟩)
      | _ => some (.stop ⟨at_, pile, sh, held, out, trail, last⟩)) := by
      unfold passStep
      show (c[at_]?).bind _ = _
      rw [h1]
      rfl
    have nx : ∀ q, q ∈ l → Reach c q.1 q.2 := fun q hq => h.next h1 h2 h3 hq
    have inl : ∀ (q : Nat × St), plainNext (whereL c) r at_ ⟨(pile.length : Int), sh⟩ = some [q] → q ∈ l := fun q hq => by
      unfold allNext at h3
      have h3 : (plainNext (whereL c) r at_ ⟨(pile.length : Int), sh⟩).bind _ = some l := h3
      rw [hq] at h3
      cases sh with
      | nil =>
        cases h3
        exact List.mem_cons_self
      | cons x g =>
        have h3 : (if r.isFaulty = true then ((whereL c).lookup x.1).map fun p => [q] ++ [(p, ⟨x.2 + 1, g⟩)] else some [q]) = some l := h3
        split at h3
        · obtain ⟨p, _, rfl⟩ := Option.map_eq_some_iff.mp h3
          exact List.mem_cons_self
        · cases h3
          exact List.mem_cons_self
    cases r with
    | tri mk l' =>
      have hs1 : sh.length ≤ c.length := hs.1
      refine step ⟨at_ + 1, pile, (mk, (pile.length : Int)) :: sh, held, out, trail, last⟩ ?_ ?_ rfl
      · rw [un]
        show (if sh.length < 1000000 then _ else _) = _
        rw [if_pos (by omega)]
      · exact nx (at_ + 1, ⟨(pile.length : Int), (mk, (pile.length : Int)) :: sh⟩) (inl _ rfl)
    | endtry l' =>
      cases sh with
      | nil => exact (f.guard rfl rfl).elim
      | cons x g =>
        refine step ⟨at_ + 1, pile, g, held, out, trail, last⟩ ?_ ?_ rfl
        · rw [un]
        · exact nx (at_ + 1, ⟨(pile.length : Int), g⟩) (inl _ rfl)
    | label mk l' =>
      refine step ⟨at_ + 1, pile, sh, held, out, trail, last⟩ ?_ ?_ rfl
      · rw [un]
      · refine nx (at_ + 1, ⟨(pile.length : Int), sh⟩) (inl _ ?_)
        show some [(at_ + 1, (⟨(pile.length : Int) + 0, sh⟩ : St))] = _
        rw [Int.add_zero]
    | _ => exact stop rfl (by rw [un])
theorem passM_total {c : Code} (S : Sound c) {m : Mc} (h : AtR c m) : ∃ m', passM c m = some m' ∧ Ready c m' := by
  obtain ⟨m', k1, k2⟩ := pass_total S (c.length + 1) m h (by omega)
  refine ⟨m', ?_, k2⟩
  unfold passM
  rw [k1]
  rfl
structure DoneS (c : Code) (r : Row) (i : Nat) (m : Mc) (k : Option Str) (m2 : Mc) : Prop where
  sh : m2.sh = m.sh
  on : k = none → (m2.last = m.last ∧ ∀ l, plainNext (whereL c) r i ⟨(m.pile.length : Int), m.sh⟩ = some l → (m2.at_, (⟨(m2.pile.length : Int), m2.sh⟩ : St)) ∈ l) ∨ ∃ v, m2.last = .value v
  flt : ∀ z, k = some z → r.isFaulty = true ∧ m2.last = m.last ∧ m2.pile.length + r.takes = m.pile.length
theorem kindK_none {x : Val ⊕ Str} (h : kindK x = none) {p : List Val} : (resP p x).length = p.length + 1 := by
  cases x with
  | inl v => rfl
  | inr k => cases h
theorem kindK_some {x : Val ⊕ Str} {z : Str} (h : kindK x = some z) {p : List Val} : resP p x = p := by
  cases x with
  | inl v => cases h
  | inr k => rfl
theorem same_no {a b : Val} {z : Str} : kindK (pairedV .same a b) ≠ some z := fun h => by cases h
theorem done_total {c : Code} (g : Good c) {r : Row} {i : Nat} {m : Mc} (hr : c[i]? = some r) (hp : r.isPseudo = false) (hat : m.at_ = i + 1) (ht : r.takes ≤ m.pile.length) (hok : r.ok = true) : ∃ k m2, doneM c r m = some (k, m2) ∧ DoneS c r i m k m2 := by
  obtain ⟨at_, pile, sh, held, out, trail, last⟩ := m
  have hat : at_ = i + 1 := hat
  subst hat
  have ht : r.takes ≤ pile.length := ht
  have mem1 : ∀ {l : List (Nat × St)} {q q' : Nat × St}, some [q] = some l → q' = q → q' ∈ l := fun h e => by
    cases h
    rw [e]
    exact List.mem_singleton.mpr rfl
  cases r with
  | tri mk l => cases hp
  | label mk l => cases hp
  | endtry l => cases hp
  | push v l =>
    exact ⟨none, _, rfl, rfl, fun _ => .inl ⟨rfl, fun l h => mem1 h rfl⟩, fun z h => by cases h⟩
  | copy n l =>
    have ht : n ≤ pile.length := ht
    have hn : 1 ≤ n := by
      have hok : (decide (l ≤ 9999) && (decide (1 ≤ n) && decide (n ≤ 9))) = true := hok
      exact of_decide_eq_true (Bool.and_eq_true_iff.mp (Bool.and_eq_true_iff.mp hok).2).1
    refine ⟨none, ⟨i + 1, pile[n - 1] :: pile, sh, held, out, trail, last⟩, ?_, rfl, fun _ => .inl ⟨rfl, fun l h => mem1 h rfl⟩, fun z h => by cases h⟩
    show (if 1 ≤ n then _ else none) = _
    rw [if_pos hn, List.getElem?_eq_getElem (show n - 1 < pile.length by omega)]
    rfl
  | swap n l =>
    have ht : n ≤ pile.length := ht
    have hn : 2 ≤ n := by
      have hok : (decide (l ≤ 9999) && (decide (2 ≤ n) && decide (n ≤ 9))) = true := hok
      exact of_decide_eq_true (Bool.and_eq_true_iff.mp (Bool.and_eq_true_iff.mp hok).2).1
    refine ⟨none, ⟨i + 1, (pile.set 0 pile[n - 1]).set (n - 1) pile[0], sh, held, out, trail, last⟩, ?_, rfl, fun _ => .inl ⟨rfl, fun l h => mem1 h ?_⟩, fun z h => by cases h⟩
    · show (if 1 ≤ n then _ else none) = _
      rw [if_pos (by omega), List.getElem?_eq_getElem (show 0 < pile.length by omega), List.getElem?_eq_getElem (show n - 1 < pile.length by omega)]
      rfl
    · show (i + 1, (⟨(((pile.set 0 pile[n - 1]).set (n - 1) pile[0]).length : Int), sh⟩ : St)) = (i + 1, ⟨(pile.length : Int) + 0, sh⟩)
      rw [List.length_set, List.length_set, Int.add_zero]
  | pr o l =>
    match pile, ht with
    | b :: a :: p, ht =>
      refine ⟨kindK (pairedV o a b), ⟨i + 1, resP p (pairedV o a b), sh, held, out, trail, last⟩, rfl, rfl, fun h => .inl ⟨rfl, fun l h2 => mem1 h2 ?_⟩, fun z h => ⟨?_, rfl, ?_⟩⟩
      · show (i + 1, (⟨((resP p (pairedV o a b)).length : Int), sh⟩ : St)) = (i + 1, ⟨((b :: a :: p).length : Int) + (-1), sh⟩)
        rw [kindK_none h, List.length_cons, List.length_cons]
        have : ((p.length + 1 : Nat) : Int) = ((p.length + 1 + 1 : Nat) : Int) + -1 := by omega
        rw [this]
      · cases o <;> first | rfl | exact (same_no h).elim
      · show (resP p (pairedV o a b)).length + 2 = (b :: a :: p).length
        rw [kindK_some h]
        rfl
  | bare o l =>
    cases o with
    | neg =>
      match pile, ht with
      | a :: p, ht =>
        refine ⟨kindK (singleV .neg a), ⟨i + 1, resP p (singleV .neg a), sh, held, out, trail, last⟩, rfl, rfl, fun h => .inl ⟨rfl, fun l h2 => mem1 h2 ?_⟩, fun z h => ⟨rfl, rfl, ?_⟩⟩
        · show (i + 1, (⟨((resP p (singleV .neg a)).length : Int), sh⟩ : St)) = (i + 1, ⟨((a :: p).length : Int) + 0, sh⟩)
          rw [kindK_none h, Int.add_zero]
          rfl
        · show (resP p (singleV .neg a)).length + 1 = (a :: p).length
          rw [kindK_some h]
          rfl
    | not =>
      match pile, ht with
      | a :: p, ht =>
        refine ⟨none, ⟨i + 1, .bool (!a.tr) :: p, sh, held, out, trail, last⟩, rfl, rfl, fun h => .inl ⟨rfl, fun l h2 => mem1 h2 ?_⟩, fun z h => by cases h⟩
        show (i + 1, (⟨((Val.bool (!a.tr) :: p).length : Int), sh⟩ : St)) = (i + 1, ⟨((a :: p).length : Int) + 0, sh⟩)
        rw [Int.add_zero]
        rfl
    | drop =>
      match pile, ht with
      | a :: p, ht =>
        refine ⟨none, ⟨i + 1, p, sh, held, out, trail, last⟩, rfl, rfl, fun h => .inl ⟨rfl, fun l h2 => mem1 h2 ?_⟩, fun z h => by cases h⟩
        show (i + 1, (⟨(p.length : Int), sh⟩ : St)) = (i + 1, ⟨((a :: p).length : Int) + (-1), sh⟩)
        rw [List.length_cons, show ((p.length + 1 : Nat) : Int) + -1 = (p.length : Int) by omega]
    | tell =>
      match pile, ht with
      | a :: p, ht =>
        refine ⟨none, ⟨i + 1, p, sh, held, out ++ [a], trail, last⟩, rfl, rfl, fun h => .inl ⟨rfl, fun l h2 => mem1 h2 ?_⟩, fun z h => by cases h⟩
        show (i + 1, (⟨(p.length : Int), sh⟩ : St)) = (i + 1, ⟨((a :: p).length : Int) + (-1), sh⟩)
        rw [List.length_cons, show ((p.length + 1 : Nat) : Int) + -1 = (p.length : Int) by omega]
    | ret =>
      match pile, ht with
      | a :: p, ht => exact ⟨none, ⟨i + 1, p, sh, held, out, trail, .value a⟩, rfl, rfl, fun h => .inr ⟨a, rfl⟩, fun z h => by cases h⟩
    | rais =>
      match pile, ht with
      | a :: p, ht => exact ⟨some (kindOf a), ⟨i + 1, p, sh, held, out, trail, last⟩, rfl, rfl, fun h => by (cases h), fun z h => ⟨rfl, rfl, rfl⟩⟩
  | nm o n l =>
    cases o with
    | store =>
      match pile, ht with
      | a :: p, ht =>
        refine ⟨none, ⟨i + 1, p, sh, putAS n a held, out, trail, last⟩, rfl, rfl, fun h => .inl ⟨rfl, fun l h2 => mem1 h2 ?_⟩, fun z h => by cases h⟩
        show (i + 1, (⟨(p.length : Int), sh⟩ : St)) = (i + 1, ⟨((a :: p).length : Int) + (-1), sh⟩)
        rw [List.length_cons, show ((p.length + 1 : Nat) : Int) + -1 = (p.length : Int) by omega]
    | quick => exact ⟨none, _, rfl, rfl, fun _ => .inl ⟨rfl, fun l h => mem1 h rfl⟩, fun z h => by cases h⟩
    | load =>
      cases e : held.lookup n with
      | none =>
        refine ⟨some "Unset", ⟨i + 1, pile, sh, held, out, trail, last⟩, ?_, rfl, fun h => by (cases h), fun z h => ⟨rfl, rfl, rfl⟩⟩
        show (match held.lookup n with | none => _ | some v => _) = _
        rw [e]
      | some v =>
        refine ⟨none, ⟨i + 1, v :: pile, sh, held, out, trail, last⟩, ?_, rfl, fun _ => .inl ⟨rfl, fun l h => mem1 h rfl⟩, fun z h => by cases h⟩
        show (match held.lookup n with | none => _ | some v => _) = _
        rw [e]
    | clear =>
      cases e : held.lookup n with
      | none =>
        refine ⟨some "Unset", ⟨i + 1, pile, sh, held, out, trail, last⟩, ?_, rfl, fun h => by (cases h), fun z h => ⟨rfl, rfl, rfl⟩⟩
        show (match held.lookup n with | none => _ | some v => _) = _
        rw [e]
      | some v =>
        refine ⟨none, ⟨i + 1, pile, sh, held.filter fun p => decide (p.1 ≠ n), out, trail, last⟩, ?_, rfl, fun _ => .inl ⟨rfl, fun l h => mem1 h ?_⟩, fun z h => by cases h⟩
        · show (match held.lookup n with | none => _ | some v => _) = _
          rw [e]
        · show (i + 1, (⟨(pile.length : Int), sh⟩ : St)) = (i + 1, ⟨(pile.length : Int) + 0, sh⟩)
          rw [Int.add_zero]
  | jmp o mk l =>
    obtain ⟨q, hq0, _⟩ := g.at hr rfl
    have hq2 : (whereL c).lookup mk = some q := hq0
    by_cases ho : o = .jump
    · subst ho
      refine ⟨none, ⟨q, pile, sh, held, out, trail, last⟩, ?_, rfl, fun _ => .inl ⟨rfl, fun l h => ?_⟩, fun z h => by cases h⟩
      · show ((whereL c).lookup mk).map _ = _
        rw [hq2]
        rfl
      · have h : ((whereL c).lookup mk).map (fun p => [(p, (⟨(pile.length : Int), sh⟩ : St))]) = some l := h
        rw [hq2] at h
        cases h
        exact List.mem_singleton.mpr rfl
    · have htk : 1 ≤ pile.length := by cases o <;> first | exact ht | exact (ho rfl).elim
      match pile, htk with
      | v :: p, _ =>
        refine ⟨none, ⟨(if o.takes v = true then q else i + 1), (if (o.takes v && !o.isIf) = true then v :: p else p), sh, held, out, trail, last⟩, ?_, rfl, fun _ => .inl ⟨rfl, fun l h => ?_⟩, fun z h => by cases h⟩
        · have e : doneM c (.jmp o mk l) ⟨i + 1, v :: p, sh, held, out, trail, last⟩ = ((whereL c).lookup mk).map fun q => (none, Mc.mk (if o.takes v = true then q else i + 1) (if (o.takes v && !o.isIf) = true then v :: p else p) sh held out trail last) := by
            cases o <;> first | rfl | exact (ho rfl).elim
          rw [e, hq2]
          rfl
        · have h : ((whereL c).lookup mk).map (fun p' => [(i + 1, (⟨((v :: p).length : Int) - 1, sh⟩ : St)), (p', ⟨((v :: p).length : Int) - (if o.isIf = true then 1 else 0), sh⟩)]) = some l := by
            cases o <;> first | exact h | exact (ho rfl).elim
          rw [hq2] at h
          cases h
          have e1 : ((v :: p).length : Int) - 1 = (p.length : Int) := by rw [List.length_cons]; omega
          cases o.takes v with
          | false =>
            refine List.mem_cons.mpr (.inl ?_)
            rw [e1]
            rfl
          | true =>
            refine List.mem_cons.mpr (.inr (List.mem_singleton.mpr ?_))
            cases o.isIf with
            | true =>
              show (q, (⟨(p.length : Int), sh⟩ : St)) = (q, ⟨((v :: p).length : Int) - 1, sh⟩)
              rw [e1]
            | false =>
              show (q, (⟨((v :: p).length : Int), sh⟩ : St)) = (q, ⟨((v :: p).length : Int) - 0, sh⟩)
              rw [Int.sub_zero]
theorem step_total {c : Code} (S : Sound c) {m : Mc} (h : Ready c m) (hl : m.last = .on) : ∃ m', stepM c m = some m' ∧ (m'.last = .on → Ready c m') := by
  obtain ⟨hA, r, hr, hp⟩ := h
  obtain ⟨r', l, h1, h2, h3⟩ := S.fits _ _ hA
  rw [hr] at h1
  cases h1
  have f := fine_of h2
  have hmem := List.mem_of_getElem? hr
  have ht : r.takes ≤ m.pile.length := by
    have := f.takes
    have : (r.takes : Int) ≤ (m.pile.length : Int) := this
    omega
  obtain ⟨k, m2, d1, D⟩ := done_total (m := m.grown) S.ok.good hr hp rfl ht (S.ok.rows r hmem).1
  have dsh : m2.sh = m.sh := D.sh
  obtain ⟨l0, e1⟩ : ∃ l0, plainNext (whereL c) r m.at_ ⟨(m.pile.length : Int), m.sh⟩ = some l0 := by
    unfold allNext at h3
    obtain ⟨l0, e, _⟩ := Option.bind_eq_some_iff.mp h3
    exact ⟨l0, e⟩
  have sub : ∀ q, q ∈ l0 → q ∈ l := fun q hq => by
    unfold allNext at h3
    rw [e1] at h3
    have h3 : (match m.sh with
      | [] => some l0
      | x :: g => if r.isFaulty = true then ((whereL c).lookup x.1).map fun p => l0 ++ [(p, ⟨x.2 + 1, g⟩)] else some l0) = some l := h3
    split at h3
    · cases h3
      exact hq
    · split at h3
      · obtain ⟨p, _, rfl⟩ := Option.map_eq_some_iff.mp h3
        exact List.mem_append_left _ hq
      · cases h3
        exact hq
  -- behind the row, and its fault
  have main : ∃ m3, kindM c r.line m2 k = some m3 ∧ (m3.last = .on → AtR c m3) := by
    cases k with
    | none =>
      refine ⟨m2, rfl, fun hon => ?_⟩
      rcases D.on rfl with ⟨_, h4⟩ | ⟨v, h4⟩
      · exact hA.next hr h2 h3 (sub _ (h4 l0 e1))
      · rw [h4] at hon
        cases hon
    | some z =>
      obtain ⟨f1, f2, f3⟩ := D.flt z rfl
      have f3 : m2.pile.length + r.takes = m.pile.length := f3
      show ∃ m3, faultM c z r.line m2 = some m3 ∧ _
      cases hs : m.sh with
      | nil =>
        refine ⟨{ m2 with last := .fault z r.line }, ?_, fun hon => by cases hon⟩
        unfold faultM
        rw [dsh, hs]
      | cons x g =>
        have stk : Stk (m.pile.length : Int) (x :: g) := by
          have := hA.stk
          have : Stk (m.pile.length : Int) m.sh := this
          rw [hs] at this
          exact this
        have x0 : 0 ≤ x.2 := stk.2.pos
        obtain ⟨q, hq⟩ := Option.isSome_iff_exists.mp (hA.gs S.ok.good x (by show x ∈ m.sh; rw [hs]; exact List.mem_cons_self))
        have low : x.2 ≤ (m2.pile.length : Int) := by
          by_cases hc : r.isCopy = true ∨ r.takes = 0
          · have : r.takes = 0 := by
              rcases hc with hc | hc
              · cases r <;> first | (cases hc; done) | cases f1
              · exact hc
            have := stk.1
            omega
          · have hc1 : r.isCopy = false := by
              cases e : r.isCopy with
              | false => rfl
              | true => exact (hc (.inl e)).elim
            have := beneath_of (s := ⟨(m.pile.length : Int), m.sh⟩) hs f.beneath hc1 (by
              have : r.takes ≠ 0 := fun z => hc (.inr z)
              omega)
            have : x.2 ≤ (m.pile.length : Int) - r.takes := this
            omega
        refine ⟨{ m2 with sh := g, pile := .str z :: m2.pile.drop (m2.pile.length - x.2.toNat), at_ := q }, ?_, fun _ => ?_⟩
        · unfold faultM
          rw [dsh, hs]
          show (if 0 ≤ x.2 then _ else none) = _
          rw [if_pos x0, hq]
          rfl
        · have hn : (q, (⟨x.2 + 1, g⟩ : St)) ∈ l := by
            unfold allNext at h3
            rw [e1] at h3
            have h3 : (match m.sh with
              | [] => some l0
              | x :: g => if r.isFaulty = true then ((whereL c).lookup x.1).map fun p => l0 ++ [(p, ⟨x.2 + 1, g⟩)] else some l0) = some l := h3
            rw [hs] at h3
            have h3 : (if r.isFaulty = true then ((whereL c).lookup x.1).map fun p => l0 ++ [(p, (⟨x.2 + 1, g⟩ : St))] else some l0) = some l := h3
            rw [if_pos f1, hq] at h3
            cases h3
            exact List.mem_append_right _ (List.mem_singleton.mpr rfl)
          have := hA.next hr h2 h3 hn
          show Reach c q ⟨((Val.str z :: m2.pile.drop (m2.pile.length - x.2.toNat)).length : Int), g⟩
          rw [List.length_cons, List.length_drop, show ((m2.pile.length - (m2.pile.length - x.2.toNat) + 1 : Nat) : Int) = x.2 + 1 by omega]
          exact this
  obtain ⟨m3, k1, k2⟩ := main
  have hst : ∀ X, (if m3.last = .on then passM c m3 else some m3) = X → stepM c m = X := fun X hX => by
    unfold stepM
    rw [hr]
    show (doneM c r m.grown).bind _ = X
    rw [d1]
    show (kindM c r.line m2 k).bind _ = X
    rw [k1]
    exact hX
  by_cases hon : m3.last = .on
  · obtain ⟨m', p1, p2⟩ := passM_total S (k2 hon)
    exact ⟨m', hst _ (by rw [if_pos hon]; exact p1), fun _ => p2⟩
  · exact ⟨m3, hst _ (by rw [if_neg hon]), fun e => (hon e).elim⟩
theorem run_total {c : Code} (S : Sound c) (names : List (Str × Val)) (steps : Nat) : ∃ m, runM c names steps = some m ∧ (m.last = .on → Ready c m) := by
  have h0 : AtR c (mc0 names) := ⟨[0], .base, rfl⟩
  obtain ⟨m1, p1, p2⟩ := passM_total S h0
  have main : ∀ (n : Nat) (m : Mc), (m.last = .on → Ready c m) → steps ≤ m.trail.length + n → ∃ m', runW (runStep c steps) (n + 1) m = some (.go m') ∧ (m'.last = .on → Ready c m') := by
    intro n
    induction n with
    | zero =>
      intro m hm hn
      refine ⟨m, ?_, hm⟩
      show (runStep c steps m).bind _ = _
      unfold runStep
      rw [if_neg (by omega)]
      rfl
    | succ n ih =>
      intro m hm hn
      by_cases h : m.trail.length < steps
      · by_cases hl : m.last = .on
        · obtain ⟨m', s1, s2⟩ := step_total S (hm hl) hl
          have tl : m'.trail = m.trail ++ [m.at_] := by
            obtain ⟨r, e1, e2⟩ := Option.bind_eq_some_iff.mp s1
            obtain ⟨⟨k, m2⟩, e3, e4⟩ := Option.bind_eq_some_iff.mp e2
            obtain ⟨m3, e5, e6⟩ := Option.bind_eq_some_iff.mp e4
            have t2 : m2.trail = m.trail ++ [m.at_] := by
              have t : ∀ {mm : Mc} {kk : Option Str} {m2 : Mc}, doneM c r mm = some (kk, m2) → m2.trail = mm.trail := fun {mm kk m2} h => by
                obtain ⟨at_, pile, sh, held, out, trail, last⟩ := mm
                cases r with
                | pr o l => match pile, h with | b :: a :: p, h => cases h; rfl
                | push v l => cases h; rfl
                | copy n l =>
                  unfold doneM at h
                  dsimp only at h
                  split at h
                  · obtain ⟨v, _, h2⟩ := Option.map_eq_some_iff.mp h
                    cases h2
                    rfl
                  · cases h
                | swap n l =>
                  unfold doneM at h
                  dsimp only at h
                  split at h
                  · obtain ⟨x, _, h2⟩ := Option.bind_eq_some_iff.mp h
                    obtain ⟨y, _, h4⟩ := Option.map_eq_some_iff.mp h2
                    cases h4
                    rfl
                  · cases h
                | tri mk l => cases h
                | label mk l => cases h
                | endtry l => cases h
                | bare o l => cases o <;> (match pile, h with | a :: p, h => cases h; rfl)
                | nm o n l =>
                  cases o with
                  | store => match pile, h with | a :: p, h => cases h; rfl
                  | quick => cases h; rfl
                  | load => (unfold doneM at h; dsimp only at h; split at h <;> cases h <;> rfl)
                  | clear => (unfold doneM at h; dsimp only at h; split at h <;> cases h <;> rfl)
                | jmp o mk l =>
                  by_cases ho : o = .jump
                  · subst ho
                    obtain ⟨q, _, h2⟩ := Option.map_eq_some_iff.mp h
                    cases h2
                    rfl
                  · have h : (match (generalizing := false) pile with
                      | v :: p => ((whereL c).lookup mk).map fun q => (none, Mc.mk (if o.takes v = true then q else at_) (if (o.takes v && !o.isIf) = true then v :: p else p) sh held out trail last)
                      | _ => none) = some (kk, m2) := by
                      cases o <;> first | exact h | exact (ho rfl).elim
                    match pile, h with
                    | v :: p, h =>
                      obtain ⟨q, _, h2⟩ := Option.map_eq_some_iff.mp h
                      cases h2
                      rfl
              exact t e3
            have t3 : m3.trail = m2.trail := by
              cases k with
              | none => cases e5; rfl
              | some z =>
                have e5 : faultM c z r.line m2 = some m3 := e5
                unfold faultM at e5
                split at e5
                · cases e5
                  rfl
                · split at e5
                  · obtain ⟨q, _, h2⟩ := Option.map_eq_some_iff.mp e5
                    cases h2
                    rfl
                  · cases e5
            split at e6
            · exact (passM_like e6).2.2.2.1.trans (t3.trans t2)
            · cases e6
              exact t3.trans t2
          obtain ⟨m'', k1, k2⟩ := ih m' s2 (by rw [tl, List.length_append, List.length_singleton]; omega)
          refine ⟨m'', ?_, k2⟩
          show (runStep c steps m).bind _ = _
          unfold runStep
          rw [if_pos h, if_pos hl, s1]
          exact k1
        · refine ⟨m, ?_, hm⟩
          show (runStep c steps m).bind _ = _
          unfold runStep
          rw [if_pos h, if_neg hl]
          rfl
      · refine ⟨m, ?_, hm⟩
        show (runStep c steps m).bind _ = _
        unfold runStep
        rw [if_neg h]
        rfl
  obtain ⟨m, k1, k2⟩ := main (steps + 1) m1 (fun _ => p2) (by omega)
  refine ⟨m, ?_, k2⟩
  unfold runM
  rw [p1]
  show (runW (runStep c steps) (steps + 2) m1).bind _ = _
  rw [k1]
  rfl
def fallS (r : Row) (s : St) : Option St := if r.isJump = true then none
  else if r.isBranch = true then some ⟨s.d - 1, s.g⟩
  else if r.isTri = true then some ⟨s.d, (r.mark, s.d) :: s.g⟩
  else if r.isEndtry = true then some ⟨s.d, s.g.tail⟩
  else if r.isEnd = true then none
  else some ⟨s.d + r.grows, s.g⟩
def goalS (r : Row) (s : St) : St := if r.isJump = true then s else ⟨s.d - (if r.isIf then 1 else 0), s.g⟩
structure RowGo (B : Nat) (σ : Nat → St) (r : Row) (s s' : St) : Prop where
  fine : Fine r s
  fall : ∀ z, fallS r s = some z → s' = z
  jmp : r.isJmp = true → σ r.mark = goalS r s
  flt : r.isFaulty = true → ∀ x g, s.g = x :: g → σ x.1 = ⟨x.2 + 1, g⟩ ∧ x.1 < B
  lab : r.isLabel = true → σ r.mark = s
def Seq (B : Nat) (σ : Nat → St) : St → List Row → St → Prop
  | s, [], s' => s = s'
  | s, r :: rs, s' => ∃ z, RowGo B σ r s z ∧ Seq B σ z rs s'
theorem Seq.append {B : Nat} {σ : Nat → St} : ∀ {xs ys : List Row} {s s1 s2 : St}, Seq B σ s xs s1 → Seq B σ s1 ys s2 → Seq B σ s (xs ++ ys) s2
  | [], ys, s, s1, s2, h, k => by
    have h : s = s1 := h
    rw [h]
    exact k
  | r :: xs, ys, s, s1, s2, ⟨z, h1, h2⟩, k => ⟨z, h1, Seq.append h2 k⟩
theorem Seq.states {B : Nat} {σ : Nat → St} : ∀ {xs : List Row} {s s' : St}, Seq B σ s xs s' → ∃ ss : Nat → St, ss 0 = s ∧ ∀ i r, xs[i]? = some r → RowGo B σ r (ss i) (ss (i + 1))
  | [], s, s', h => ⟨fun _ => s, rfl, fun i r h => by cases h⟩
  | r :: xs, s, s', ⟨z, h1, h2⟩ => by
    obtain ⟨ss, e1, e2⟩ := Seq.states h2
    refine ⟨fun i => match i with
      | 0 => s
      | i + 1 => ss i, rfl, fun i r' h => ?_⟩
    cases i with
    | zero =>
      cases h
      show RowGo B σ r s (ss 0)
      rw [e1]
      exact h1
    | succ i => exact e2 i r' (by simpa using h)
theorem lacks_nil {n : Nat} {w : List (Nat × Nat)} {r : Row} {i : Nat} {s : St} {l : List (Nat × St)} (h : allNext w r i s = some l) (f : Fine r s) (he : ∀ q, q ∈ l → q.1 ≠ n) : lacks n w r i s = some [] := by
  unfold lacks
  rw [h]
  have h1 : ¬ s.d < (r.takes : Int) := by have := f.takes; omega
  have h2 : (r.isEndtry && s.g.isEmpty) = false := by
    cases e : r.isEndtry with
    | false => rfl
    | true =>
      have := f.guard e
      cases hg : s.g with
      | nil => exact (this hg).elim
      | cons x g => rfl
  have h3 := f.beneath
  have h4 : l.any (fun p => decide (p.1 = n)) = false := by
    rw [List.any_eq_false]
    intro q hq
    rw [decide_eq_false (he q hq)]
    exact Bool.false_ne_true
  show some (_ ++ _ ++ _ ++ _) = _
  rw [if_neg h1, h2, h3, h4]
  rfl
theorem Seq.fitsE {c : Code} {B : Nat} {σ : Nat → St} {s' : St} (ok : CodeOk c) (hB : ∀ m, m < B → ∃ l, Row.label m l ∈ c) (h : Seq B σ ⟨0, []⟩ c s') (hl : ∃ o l, c.getLast? = some (.bare o l) ∧ (o = .ret ∨ o = .rais)) : ∃ t, Fits c t := by
  obtain ⟨ss, e0, es⟩ := h.states
  have g := ok.good
  have lab : ∀ m p, (whereL c).lookup m = some p → p < c.length ∧ ss p = σ m := fun m p hp => by
    obtain ⟨l, hpl⟩ := where_some hp
    exact ⟨where_lt hp, ((es p _ hpl).lab rfl).symm⟩
  refine ⟨fun i => if i < c.length then some (ss i) else none, ?_, fun i s hi => ?_⟩
  · have := ok.pos
    show (if 0 < c.length then some (ss 0) else none) = _
    rw [if_pos (by omega), e0]
  · have hi : (if i < c.length then some (ss i) else none) = some s := hi
    split at hi
    · rename_i hlt
      cases hi
      obtain ⟨r, hr⟩ : ∃ r, c[i]? = some r := ⟨_, List.getElem?_eq_getElem hlt⟩
      have R := es i r hr
      have tt : ∀ p, p < c.length → (if p < c.length then some (ss p) else none) = some (ss p) := fun p hp => if_pos hp
      have nxt : ∀ z, fallS r (ss i) = some z → i + 1 < c.length ∧ ss (i + 1) = z := fun z hz => by
        refine ⟨?_, R.fall z hz⟩
        by_cases he : i + 1 < c.length
        · exact he
        · obtain ⟨o, l, hlast, ho⟩ := hl
          rw [List.getLast?_eq_getElem?, show c.length - 1 = i by omega, hr] at hlast
          cases hlast
          rcases ho with rfl | rfl <;> cases hz
      -- without faults
      have plain : ∃ l, plainNext (whereL c) r i (ss i) = some l ∧ ∀ q, q ∈ l → q.1 < c.length ∧ ss q.1 = q.2 := by
        unfold plainNext
        split
        · rename_i hb
          obtain ⟨p, hp, _⟩ := g.at hr (by cases r <;> first | rfl | cases hb)
          rw [hp]
          refine ⟨_, rfl, fun q hq => ?_⟩
          rw [List.mem_singleton.mp hq]
          obtain ⟨y1, y2⟩ := lab _ _ hp
          refine ⟨y1, y2.trans ((R.jmp (by cases r <;> first | rfl | cases hb)).trans ?_)⟩
          unfold goalS
          rw [if_pos hb]
        · rename_i hn1
          split
          · rename_i hb
            obtain ⟨p, hp, _⟩ := g.at hr (by cases r <;> first | rfl | cases hb)
            rw [hp]
            refine ⟨_, rfl, fun q hq => ?_⟩
            rcases List.mem_cons.mp hq with rfl | hq
            · exact nxt _ (by unfold fallS; rw [if_neg hn1, if_pos hb])
            · rw [List.mem_singleton.mp hq]
              obtain ⟨y1, y2⟩ := lab _ _ hp
              refine ⟨y1, y2.trans ((R.jmp (by cases r <;> first | rfl | cases hb)).trans ?_)⟩
              unfold goalS
              rw [if_neg hn1]
          · rename_i hn2
            split
            · rename_i hb
              refine ⟨_, rfl, fun q hq => ?_⟩
              rw [List.mem_singleton.mp hq]
              exact nxt _ (by unfold fallS; rw [if_neg hn1, if_neg hn2, if_pos hb])
            · rename_i hn3
              split
              · rename_i hb
                refine ⟨_, rfl, fun q hq => ?_⟩
                rw [List.mem_singleton.mp hq]
                exact nxt _ (by unfold fallS; rw [if_neg hn1, if_neg hn2, if_neg hn3, if_pos hb])
              · rename_i hn4
                split
                · exact ⟨_, rfl, fun q hq => by cases hq⟩
                · rename_i hn5
                  refine ⟨_, rfl, fun q hq => ?_⟩
                  rw [List.mem_singleton.mp hq]
                  exact nxt _ (by unfold fallS; rw [if_neg hn1, if_neg hn2, if_neg hn3, if_neg hn4, if_neg hn5])
      obtain ⟨l0, p1, p2⟩ := plain
      have all : ∃ l, allNext (whereL c) r i (ss i) = some l ∧ ∀ q, q ∈ l → q.1 < c.length ∧ ss q.1 = q.2 := by
        unfold allNext
        rw [p1]
        cases hg : (ss i).g with
        | nil => exact ⟨l0, rfl, p2⟩
        | cons x gs =>
          show ∃ l, (if r.isFaulty = true then ((whereL c).lookup x.1).map fun p => l0 ++ [(p, ⟨x.2 + 1, gs⟩)] else some l0) = some l ∧ _
          split
          · rename_i hf
            obtain ⟨f1, f2⟩ := R.flt hf x gs hg
            obtain ⟨lb, hlb⟩ := hB x.1 f2
            obtain ⟨j, hj⟩ := List.mem_iff_getElem?.mp hlb
            obtain ⟨p, hp⟩ := Option.isSome_iff_exists.mp (where_has hj)
            rw [hp]
            refine ⟨_, rfl, fun q hq => ?_⟩
            rcases List.mem_append.mp hq with hq | hq
            · exact p2 q hq
            · rw [List.mem_singleton.mp hq]
              obtain ⟨y1, y2⟩ := lab _ _ hp
              exact ⟨y1, y2.trans f1⟩
          · exact ⟨l0, rfl, p2⟩
      obtain ⟨l, a1, a2⟩ := all
      refine ⟨r, l, hr, lacks_nil a1 R.fine fun q hq e => ?_, a1, fun q hq => ?_⟩
      · have := (a2 q hq).1
        omega
      · obtain ⟨y1, y2⟩ := a2 q hq
        show (if q.1 < c.length then some (ss q.1) else none) = _
        rw [if_pos y1, y2]
    · cases hi
theorem Seq.fits {c : Code} {B : Nat} {σ : Nat → St} {s' : St} (ok : CodeOk c) (hB : ∀ m, m < B → ∃ l, Row.label m l ∈ c) (h : Seq B σ ⟨0, []⟩ c s') (hl : ∃ l, c.getLast? = some (.bare .ret l)) : ∃ t, Fits c t := by
  obtain ⟨l, e⟩ := hl
  exact h.fitsE ok hB ⟨.ret, l, e, .inl rfl⟩
def labsOf (F : List Row) : List Nat := (F.filter Row.isLabel).map Row.mark
theorem labs_nil : labsOf [] = [] := rfl
theorem labs_app {F G : List Row} : labsOf (F ++ G) = labsOf F ++ labsOf G := by
  unfold labsOf
  rw [List.filter_append, List.map_append]
theorem labs_no {r : Row} {F : List Row} (h : r.isLabel = false) : labsOf (r :: F) = labsOf F := by
  unfold labsOf
  rw [List.filter_cons_of_neg (by rw [h]; exact Bool.false_ne_true)]
theorem labs_yes {m l : Nat} {F : List Row} : labsOf (.label m l :: F) = m :: labsOf F := rfl
structure RwOk (r : Row) : Prop where
  fits : r.fits
  ok : r.line ≤ 9999 → (r.isHop = true ∨ r.isLabel = true → r.mark ≤ 99) → r.ok = true
  vals : ∀ v l, r = .push v l → v.good
structure FragP (F : List Row) (a b : Nat) (n k : Int) : Prop where
  le : a ≤ b
  labs : (labsOf F).Nodup
  lab : ∀ m, m ∈ labsOf F ↔ a ≤ m ∧ m < b
  hop : ∀ r, r ∈ F → r.isHop = true → a ≤ r.mark ∧ r.mark < b
  rows : ∀ r, r ∈ F → RwOk r
  go : ∀ (s : St) (σ0 : Nat → St), Stk (s.d - n) s.g → (∀ x, x ∈ s.g → x.1 < a) → (∀ x g, s.g = x :: g → σ0 x.1 = ⟨x.2 + 1, g⟩) →
    ∃ σ : Nat → St, (∀ m, m < a → σ m = σ0 m) ∧ ∀ (B : Nat) (σ' : Nat → St), b ≤ B → (∀ m, m < b → σ' m = σ m) → Seq B σ' s F ⟨s.d + k, s.g⟩
theorem FragP.nil {a : Nat} {n : Int} : FragP [] a a n 0 := by
  refine ⟨Nat.le_refl _, .nil, fun m => ⟨fun h => (by cases h), fun h => by omega⟩, fun r h => (by cases h), fun r h => (by cases h), fun s σ0 _ _ _ => ⟨σ0, fun _ _ => rfl, fun B σ' _ _ => ?_⟩⟩
  show s = (⟨s.d + 0, s.g⟩ : St)
  rw [Int.add_zero]
theorem FragP.append {F G : List Row} {a b c : Nat} {n k n2 j m : Int} (h : FragP F a b n k) (h2 : FragP G b c n2 j) (hm : n ≤ m := by omega) (hm2 : n2 ≤ m + k := by omega) : FragP (F ++ G) a c m (k + j) := by
  have l1 := h.le
  have l2 := h2.le
  refine ⟨Nat.le_trans l1 l2, ?_, fun m => ?_, fun r hr hh => ?_, fun r hr => ?_, fun s σ0 s1 s2 s3 => ?_⟩
  · rw [labs_app]
    refine List.nodup_append.mpr ⟨h.labs, h2.labs, fun x hx y hy e => ?_⟩
    have := (h.lab x).mp hx
    have := (h2.lab y).mp hy
    omega
  · rw [labs_app, List.mem_append, h.lab, h2.lab]
    omega
  · rcases List.mem_append.mp hr with hr | hr
    · have := h.hop r hr hh
      omega
    · have := h2.hop r hr hh
      omega
  · rcases List.mem_append.mp hr with hr | hr
    · exact h.rows r hr
    · exact h2.rows r hr
  · obtain ⟨σ1, a1, a2⟩ := h.go s σ0 (s1.up (by omega)) s2 s3
    obtain ⟨σ2, b1, b2⟩ := h2.go ⟨s.d + k, s.g⟩ σ1 (s1.up (by show s.d - m ≤ s.d + k - n2; omega)) (fun x hx => Nat.lt_of_lt_of_le (s2 x hx) l1) (fun x g hx => by
      rw [a1 x.1 (s2 x (by have hx : s.g = x :: g := hx; rw [hx]; exact List.mem_cons_self))]
      exact s3 x g hx)
    refine ⟨σ2, fun m hm => by rw [b1 m (by omega), a1 m hm], fun B σ' hB hσ => ?_⟩
    have e := a2 B σ' (by omega) fun m hm => by rw [hσ m (by omega), b1 m hm]
    have e2 := b2 B σ' hB hσ
    have e3 := e.append e2
    rw [show s.d + (k + j) = s.d + k + j by omega]
    exact e3
theorem FragP.to {F : List Row} {a b : Nat} {n k n' k' : Int} (h : FragP F a b n k) (hn : n ≤ n' := by omega) (hk : k = k' := by omega) : FragP F a b n' k' := by
  subst hk
  exact ⟨h.le, h.labs, h.lab, h.hop, h.rows, fun s σ0 s1 => h.go s σ0 (s1.up (by omega))⟩
theorem fine_row {r : Row} {s : St} (ht : Stk (s.d - r.takes) s.g) (he : r.isEndtry = false) : Fine r s := by
  refine ⟨?_, fun e => ?_, ?_⟩
  · have := ht.pos
    omega
  · rw [he] at e
    cases e
  · unfold beneath
    cases hg : s.g with
    | nil => rfl
    | cons x g =>
      rw [hg] at ht
      have h1 : x.2 ≤ s.d - r.takes := ht.1
      dsimp only
      rw [decide_eq_false (show ¬ s.d - r.takes < x.2 by omega), Bool.and_false, Bool.and_false]
theorem FragP.one {r : Row} {a : Nat} {k : Int} (h1 : r.isHop = false) (h2 : r.isLabel = false) (h3 : r.isEndtry = false) (hk : r.isEnd = true ∨ k = r.grows) (hf : r.fits) (ho : r.line ≤ 9999 → r.ok = true) (hv : ∀ v l, r = .push v l → v.good) : FragP [r] a a r.takes k := by
  have fl : labsOf [r] = [] := labs_no h2
  refine ⟨Nat.le_refl _, by rw [fl]; exact .nil, fun m => by rw [fl]; exact ⟨fun h => (by cases h), fun h => by omega⟩, fun r' hr hh => ?_, fun r' hr => ?_, fun s σ0 s1 s2 s3 => ⟨σ0, fun _ _ => rfl, fun B σ' hB hσ => ⟨⟨s.d + k, s.g⟩, ⟨fine_row s1 h3, fun z hz => ?_, fun hj => ?_, fun _ x g hx => ?_, fun hl => ?_⟩, rfl⟩⟩⟩
  · rw [List.mem_singleton.mp hr, h1] at hh
    cases hh
  · rw [List.mem_singleton.mp hr]
    exact ⟨hf, fun h _ => ho h, hv⟩
  · have e1 : r.isJump = false := by cases r <;> first | rfl | (cases h1; done)
    have e2 : r.isBranch = false := by cases r <;> first | rfl | (cases h1; done)
    have e3 : r.isTri = false := by cases r <;> first | rfl | (cases h1; done)
    unfold fallS at hz
    rw [e1, e2, e3, h3] at hz
    simp only [Bool.false_eq_true, if_false] at hz
    split at hz
    · cases hz
    · rename_i he
      cases hz
      rcases hk with hk | hk
      · exact (he hk).elim
      · rw [hk]
  · exfalso
    cases r <;> first | (cases h1; done) | (cases hj; done)
  · have hm := s2 x (by rw [hx]; exact List.mem_cons_self)
    refine ⟨(hσ x.1 hm).trans (s3 x g hx), by omega⟩
  · rw [h2] at hl
    cases hl
section
variable {B : Nat} {σ : Nat → St} {s z : St} {m l : Nat}
theorem go_jmp {o : JOp} (ht : Stk (s.d - Row.takes (.jmp o m l)) s.g) (hσ : σ m = goalS (.jmp o m l) s) (hz : ∀ y, fallS (.jmp o m l) s = some y → z = y) : RowGo B σ (.jmp o m l) s z :=
  ⟨fine_row ht rfl, hz, fun _ => hσ, fun h => (by cases h), fun h => (by cases h)⟩
theorem go_label (h0 : Stk s.d s.g) (hσ : σ m = s) : RowGo B σ (.label m l) s s := by
  refine ⟨fine_row (by show Stk (s.d - 0) s.g; rw [Int.sub_zero]; exact h0) rfl, fun z hz => ?_, fun h => (by cases h), fun h => (by cases h), fun _ => hσ⟩
  have hz : some (⟨s.d + 0, s.g⟩ : St) = some z := hz
  cases hz
  rw [Int.add_zero]
theorem go_tri (h0 : Stk s.d s.g) : RowGo B σ (.tri m l) s ⟨s.d, (m, s.d) :: s.g⟩ := by
  refine ⟨fine_row (by show Stk (s.d - 0) s.g; rw [Int.sub_zero]; exact h0) rfl, fun z hz => ?_, fun h => (by cases h), fun h => (by cases h), fun h => (by cases h)⟩
  have hz : some (⟨s.d, (m, s.d) :: s.g⟩ : St) = some z := hz
  cases hz
  rfl
theorem go_endtry {x : Nat × Int} {g : List (Nat × Int)} {d : Int} (h0 : Stk d (x :: g)) : RowGo B σ (.endtry l) ⟨d, x :: g⟩ ⟨d, g⟩ := by
  refine ⟨⟨?_, fun _ h => (by cases h), ?_⟩, fun z hz => ?_, fun h => (by cases h), fun h => (by cases h), fun h => (by cases h)⟩
  · exact h0.pos
  · rfl
  · have hz : some (⟨d, g⟩ : St) = some z := hz
    cases hz
    rfl
end
theorem RwOk.jmp {o : JOp} {m l : Nat} : RwOk (.jmp o m l) := ⟨trivial, fun h1 h2 => by
  show (decide (l ≤ 9999) && decide (m ≤ 99)) = true
  rw [decide_eq_true (show l ≤ 9999 from h1), decide_eq_true (show m ≤ 99 from h2 (.inl rfl))]
  rfl, fun v l h => by cases h⟩
theorem RwOk.tri {m l : Nat} : RwOk (.tri m l) := ⟨trivial, fun h1 h2 => by
  show (decide (l ≤ 9999) && decide (m ≤ 99)) = true
  rw [decide_eq_true (show l ≤ 9999 from h1), decide_eq_true (show m ≤ 99 from h2 (.inl rfl))]
  rfl, fun v l h => by cases h⟩
theorem RwOk.label {m l : Nat} : RwOk (.label m l) := ⟨trivial, fun h1 h2 => by
  show (decide (l ≤ 9999) && decide (m ≤ 99)) = true
  rw [decide_eq_true (show l ≤ 9999 from h1), decide_eq_true (show m ≤ 99 from h2 (.inr rfl))]
  rfl, fun v l h => by cases h⟩
theorem RwOk.endtry {l : Nat} : RwOk (.endtry l) := ⟨trivial, fun h1 _ => decide_eq_true (show l ≤ 9999 from h1), fun v l h => by cases h⟩
def upS (σ : Nat → St) (m : Nat) (s : St) : Nat → St := fun i => if i = m then s else σ i
theorem upS_same {σ : Nat → St} {m : Nat} {s : St} : upS σ m s m = s := if_pos rfl
theorem upS_ne {σ : Nat → St} {m i : Nat} {s : St} (h : i ≠ m) : upS σ m s i = σ i := if_neg h
theorem Seq.one {B : Nat} {σ : Nat → St} {r : Row} {s z : St} (h : RowGo B σ r s z) : Seq B σ s [r] z := ⟨z, h, rfl⟩
theorem FragP.orv {V W : List Row} {a b c l1 l2 : Nat} {o : JOp} (ho : o = .ortrue ∨ o = .orfalse) (h1 : FragP V (a + 1) b 0 1) (h2 : FragP W b c 0 1) : FragP (V ++ ([.jmp o a l1] ++ (W ++ [.label a l2]))) a c 0 1 := by
  have e1 := h1.le
  have e2 := h2.le
  refine ⟨by omega, ?_, fun m => ?_, fun r hr hh => ?_, fun r hr => ?_, fun s σ0 s1 s2 s3 => ?_⟩
  · rw [labs_app, labs_app, labs_app, labs_no (r := .jmp o a l1) rfl, labs_yes, labs_nil, List.nil_append]
    refine List.nodup_append.mpr ⟨h1.labs, List.nodup_append.mpr ⟨h2.labs, by simp, fun x hx y hy e => ?_⟩, fun x hx y hy e => ?_⟩
    · have := (h2.lab x).mp hx
      have := List.mem_singleton.mp hy
      omega
    · have := (h1.lab x).mp hx
      rcases List.mem_append.mp hy with hy | hy
      · have := (h2.lab y).mp hy
        omega
      · have := List.mem_singleton.mp hy
        omega
  · rw [labs_app, labs_app, labs_app, labs_no (r := .jmp o a l1) rfl, labs_yes, labs_nil, List.nil_append, List.mem_append, List.mem_append, h1.lab, h2.lab, List.mem_singleton]
    omega
  · simp only [List.mem_append, List.mem_singleton] at hr
    rcases hr with hr | rfl | hr | rfl
    · have := h1.hop r hr hh
      omega
    · show a ≤ a ∧ a < c
      omega
    · have := h2.hop r hr hh
      omega
    · cases hh
  · simp only [List.mem_append, List.mem_singleton] at hr
    rcases hr with hr | rfl | hr | rfl
    · exact h1.rows r hr
    · exact .jmp
    · exact h2.rows r hr
    · exact .label
  · rw [Int.sub_zero] at s1
    have mk : ∀ x, x ∈ s.g → x.1 ≠ a := fun x hx e => by have := s2 x hx; omega
    obtain ⟨σ1, a1, a2⟩ := h1.go s (upS σ0 a ⟨s.d + 1, s.g⟩) (by rw [Int.sub_zero]; exact s1) (fun x hx => by have := s2 x hx; omega) (fun x g hx => by
      rw [upS_ne (mk x (by rw [hx]; exact List.mem_cons_self))]
      exact s3 x g hx)
    obtain ⟨σ2, b1, b2⟩ := h2.go s σ1 (by rw [Int.sub_zero]; exact s1) (fun x hx => by have := s2 x hx; omega) (fun x g hx => by
      rw [a1 x.1 (by have := s2 x (by rw [hx]; exact List.mem_cons_self); omega), upS_ne (mk x (by rw [hx]; exact List.mem_cons_self))]
      exact s3 x g hx)
    refine ⟨σ2, fun m hm => by rw [b1 m (by omega), a1 m (by omega), upS_ne (by omega)], fun B σ' hB hσ => ?_⟩
    have ea : σ' a = ⟨s.d + 1, s.g⟩ := by rw [hσ a (by omega), b1 a (by omega), a1 a (by omega), upS_same]
    have q1 := a2 B σ' (by omega) fun m hm => by rw [hσ m (by omega), b1 m hm]
    have q2 := b2 B σ' hB hσ
    refine q1.append ((Seq.one (z := s) (go_jmp ?_ ?_ fun y hy => ?_)).append (q2.append (Seq.one (go_label (s1.up (by show s.d ≤ s.d + 1; omega)) ea))))
    · have : (Row.takes (.jmp o a l1) : Int) = 1 := by rcases ho with rfl | rfl <;> rfl
      rw [this]
      exact s1.up (by show s.d ≤ s.d + 1 - 1; omega)
    · rw [ea]
      have : goalS (.jmp o a l1) ⟨s.d + 1, s.g⟩ = ⟨s.d + 1 - 0, s.g⟩ := by rcases ho with rfl | rfl <;> rfl
      rw [this, Int.sub_zero]
    · have : fallS (.jmp o a l1) ⟨s.d + 1, s.g⟩ = some ⟨s.d + 1 - 1, s.g⟩ := by rcases ho with rfl | rfl <;> rfl
      rw [this] at hy
      cases hy
      rw [show s.d + 1 - 1 = s.d by omega]
theorem FragP.triv {V : List Row} {a b l1 l2 l3 l4 l5 : Nat} (h1 : FragP V (a + 2) b 0 1) : FragP ([.tri a l1] ++ (V ++ [.endtry l2, .jmp .jump (a + 1) l3, .label a l4, .label (a + 1) l5])) a b 0 1 := by
  have e1 := h1.le
  have lb : labsOf ([.tri a l1] ++ (V ++ [.endtry l2, .jmp .jump (a + 1) l3, .label a l4, .label (a + 1) l5])) = labsOf V ++ [a, a + 1] := by
    rw [labs_app, labs_app]
    rfl
  refine ⟨by omega, ?_, fun m => ?_, fun r hr hh => ?_, fun r hr => ?_, fun s σ0 s1 s2 s3 => ?_⟩
  · rw [lb]
    refine List.nodup_append.mpr ⟨h1.labs, by simp, fun x hx y hy e => ?_⟩
    have := (h1.lab x).mp hx
    simp only [List.mem_cons, List.not_mem_nil, or_false] at hy
    omega
  · rw [lb, List.mem_append, h1.lab]
    simp only [List.mem_cons, List.not_mem_nil, or_false]
    omega
  · simp only [List.mem_append, List.mem_cons, List.not_mem_nil, or_false] at hr
    rcases hr with rfl | hr | rfl | rfl | rfl | rfl
    · show a ≤ a ∧ a < b
      omega
    · have := h1.hop r hr hh
      omega
    · cases hh
    · show a ≤ a + 1 ∧ a + 1 < b
      omega
    · cases hh
    · cases hh
  · simp only [List.mem_append, List.mem_cons, List.not_mem_nil, or_false] at hr
    rcases hr with rfl | hr | rfl | rfl | rfl | rfl
    · exact .tri
    · exact h1.rows r hr
    · exact .endtry
    · exact .jmp
    · exact .label
    · exact .label
  · rw [Int.sub_zero] at s1
    have s1' : Stk (s.d + 1) s.g := s1.up (by omega)
    have mk : ∀ x, x ∈ s.g → x.1 ≠ a ∧ x.1 ≠ a + 1 := fun x hx => by have := s2 x hx; omega
    obtain ⟨σ1, a1, a2⟩ := h1.go ⟨s.d, (a, s.d) :: s.g⟩ (upS (upS σ0 a ⟨s.d + 1, s.g⟩) (a + 1) ⟨s.d + 1, s.g⟩) (by rw [Int.sub_zero]; exact ⟨Int.le_refl _, s1⟩) (fun x hx => by
      rcases List.mem_cons.mp hx with rfl | hx
      · show a < a + 2
        omega
      · have := s2 x hx
        omega) (fun x g hx => by
      cases hx
      rw [upS_ne (by show a ≠ a + 1; omega), upS_same])
    refine ⟨σ1, fun m hm => by rw [a1 m (by omega), upS_ne (by omega), upS_ne (by omega)], fun B σ' hB hσ => ?_⟩
    have ea : σ' a = ⟨s.d + 1, s.g⟩ := by rw [hσ a (by omega), a1 a (by omega), upS_ne (by omega), upS_same]
    have eb : σ' (a + 1) = ⟨s.d + 1, s.g⟩ := by rw [hσ (a + 1) (by omega), a1 (a + 1) (by omega), upS_same]
    have q1 := a2 B σ' hB hσ
    refine (Seq.one (go_tri s1)).append (q1.append ⟨⟨s.d + 1, s.g⟩, go_endtry ⟨by show s.d ≤ s.d + 1; omega, s1⟩, ⟨s.d + 1, s.g⟩, go_jmp (by show Stk (s.d + 1 - 0) s.g; rw [Int.sub_zero]; exact s1') eb (fun y hy => by cases hy), ⟨s.d + 1, s.g⟩, go_label s1' ea, ⟨s.d + 1, s.g⟩, go_label s1' eb, rfl⟩)
theorem FragP.choice {V F G : List Row} {a b c e l1 l2 l3 l4 : Nat} {o : JOp} (ho : o = .iftrue ∨ o = .iffalse) (h1 : FragP V (a + 2) b 0 1) (h2 : FragP F b c 0 0) (h3 : FragP G c e 0 0) :
    FragP (V ++ ([.jmp o a l1] ++ (F ++ ([.jmp .jump (a + 1) l2, .label a l3] ++ (G ++ [.label (a + 1) l4]))))) a e 0 0 := by
  have e1 := h1.le
  have e2 := h2.le
  have e3 := h3.le
  have lb : labsOf (V ++ ([.jmp o a l1] ++ (F ++ ([.jmp .jump (a + 1) l2, .label a l3] ++ (G ++ [.label (a + 1) l4]))))) = labsOf V ++ (labsOf F ++ ([a] ++ (labsOf G ++ [a + 1]))) := by
    rw [labs_app, labs_app, labs_app, labs_app, labs_app, labs_no (r := .jmp o a l1) rfl, labs_nil, List.nil_append]
    rfl
  refine ⟨by omega, ?_, fun m => ?_, fun r hr hh => ?_, fun r hr => ?_, fun s σ0 s1 s2 s3 => ?_⟩
  · rw [lb]
    refine List.nodup_append.mpr ⟨h1.labs, List.nodup_append.mpr ⟨h2.labs, List.nodup_append.mpr ⟨by simp, List.nodup_append.mpr ⟨h3.labs, by simp, fun x hx y hy e => ?_⟩, fun x hx y hy e => ?_⟩, fun x hx y hy e => ?_⟩, fun x hx y hy e => ?_⟩
    · have := (h3.lab x).mp hx
      have := List.mem_singleton.mp hy
      omega
    · have := List.mem_singleton.mp hx
      rcases List.mem_append.mp hy with hy | hy
      · have := (h3.lab y).mp hy
        omega
      · have := List.mem_singleton.mp hy
        omega
    · have := (h2.lab x).mp hx
      simp only [List.mem_append, List.mem_singleton, h3.lab] at hy
      omega
    · have := (h1.lab x).mp hx
      simp only [List.mem_append, List.mem_singleton, h2.lab, h3.lab] at hy
      omega
  · rw [lb]
    simp only [List.mem_append, List.mem_singleton, h1.lab, h2.lab, h3.lab]
    omega
  · simp only [List.mem_append, List.mem_cons, List.not_mem_nil, or_false] at hr
    rcases hr with hr | rfl | hr | (rfl | rfl) | hr | rfl
    · have := h1.hop r hr hh
      omega
    · show a ≤ a ∧ a < e
      omega
    · have := h2.hop r hr hh
      omega
    · show a ≤ a + 1 ∧ a + 1 < e
      omega
    · cases hh
    · have := h3.hop r hr hh
      omega
    · cases hh
  · simp only [List.mem_append, List.mem_cons, List.not_mem_nil, or_false] at hr
    rcases hr with hr | rfl | hr | (rfl | rfl) | hr | rfl
    · exact h1.rows r hr
    · exact .jmp
    · exact h2.rows r hr
    · exact .jmp
    · exact .label
    · exact h3.rows r hr
    · exact .label
  · rw [Int.sub_zero] at s1
    have s1' : Stk (s.d - 0) s.g := by rw [Int.sub_zero]; exact s1
    have mk : ∀ x, x ∈ s.g → x.1 ≠ a ∧ x.1 ≠ a + 1 := fun x hx => by have := s2 x hx; omega
    have hm : ∀ {x : Nat × Int} {g : List (Nat × Int)}, s.g = x :: g → x ∈ s.g := fun hx => by rw [hx]; exact List.mem_cons_self
    obtain ⟨σ1, a1, a2⟩ := h1.go s (upS (upS σ0 a s) (a + 1) s) s1' (fun x hx => by have := s2 x hx; omega) (fun x g hx => by
      rw [upS_ne (mk x (hm hx)).2, upS_ne (mk x (hm hx)).1]
      exact s3 x g hx)
    obtain ⟨σ2, b1, b2⟩ := h2.go s σ1 s1' (fun x hx => by have := s2 x hx; omega) (fun x g hx => by
      rw [a1 x.1 (by have := s2 x (hm hx); omega), upS_ne (mk x (hm hx)).2, upS_ne (mk x (hm hx)).1]
      exact s3 x g hx)
    obtain ⟨σ3, c1, c2⟩ := h3.go s σ2 s1' (fun x hx => by have := s2 x hx; omega) (fun x g hx => by
      rw [b1 x.1 (by have := s2 x (hm hx); omega), a1 x.1 (by have := s2 x (hm hx); omega), upS_ne (mk x (hm hx)).2, upS_ne (mk x (hm hx)).1]
      exact s3 x g hx)
    refine ⟨σ3, fun m hm => by rw [c1 m (by omega), b1 m (by omega), a1 m (by omega), upS_ne (by omega), upS_ne (by omega)], fun B σ' hB hσ => ?_⟩
    have ea : σ' a = s := by rw [hσ a (by omega), c1 a (by omega), b1 a (by omega), a1 a (by omega), upS_ne (by omega), upS_same]
    have eb : σ' (a + 1) = s := by rw [hσ (a + 1) (by omega), c1 (a + 1) (by omega), b1 (a + 1) (by omega), a1 (a + 1) (by omega), upS_same]
    have q1 := a2 B σ' (by omega) fun m hm => by rw [hσ m (by omega), c1 m (by omega), b1 m (by omega)]
    have q2 := b2 B σ' (by omega) fun m hm => by rw [hσ m (by omega), c1 m (by omega)]
    have q3 := c2 B σ' hB hσ
    rw [Int.add_zero] at q2 q3
    have z0 : s.d + 1 - 1 = s.d := by omega
    have es : (⟨s.d + 0, s.g⟩ : St) = s := by rw [Int.add_zero]
    rw [es]
    refine q1.append ((Seq.one (z := s) (go_jmp ?_ ?_ fun y hy => ?_)).append (q2.append (Seq.append (s1 := s) ⟨s, go_jmp s1' eb (fun y hy => by cases hy), s, go_label s1 ea, rfl⟩ (q3.append (Seq.one (go_label s1 eb))))))
    · have : (Row.takes (.jmp o a l1) : Int) = 1 := by rcases ho with rfl | rfl <;> rfl
      rw [this]
      show Stk (s.d + 1 - 1) s.g
      rw [z0]
      exact s1
    · rw [ea]
      have : goalS (.jmp o a l1) ⟨s.d + 1, s.g⟩ = ⟨s.d + 1 - 1, s.g⟩ := by rcases ho with rfl | rfl <;> rfl
      rw [this, z0]
    · have : fallS (.jmp o a l1) ⟨s.d + 1, s.g⟩ = some ⟨s.d + 1 - 1, s.g⟩ := by rcases ho with rfl | rfl <;> rfl
      rw [this] at hy
      cases hy
      rw [z0]
theorem FragP.round {V F : List Row} {a b c l1 l2 l3 l4 : Nat} (h1 : FragP V (a + 2) b 0 1) (h2 : FragP F b c 0 0) :
    FragP ([.label a l1] ++ (V ++ ([.jmp .iffalse (a + 1) l2] ++ (F ++ [.jmp .jump a l3, .label (a + 1) l4])))) a c 0 0 := by
  have e1 := h1.le
  have e2 := h2.le
  have lb : labsOf ([.label a l1] ++ (V ++ ([.jmp .iffalse (a + 1) l2] ++ (F ++ [.jmp .jump a l3, .label (a + 1) l4])))) = [a] ++ (labsOf V ++ (labsOf F ++ [a + 1])) := by
    rw [labs_app, labs_app, labs_app, labs_app]
    rfl
  refine ⟨by omega, ?_, fun m => ?_, fun r hr hh => ?_, fun r hr => ?_, fun s σ0 s1 s2 s3 => ?_⟩
  · rw [lb]
    refine List.nodup_append.mpr ⟨by simp, List.nodup_append.mpr ⟨h1.labs, List.nodup_append.mpr ⟨h2.labs, by simp, fun x hx y hy e => ?_⟩, fun x hx y hy e => ?_⟩, fun x hx y hy e => ?_⟩
    · have := (h2.lab x).mp hx
      have := List.mem_singleton.mp hy
      omega
    · have := (h1.lab x).mp hx
      simp only [List.mem_append, List.mem_singleton, h2.lab] at hy
      omega
    · have := List.mem_singleton.mp hx
      simp only [List.mem_append, List.mem_singleton, h1.lab, h2.lab] at hy
      omega
  · rw [lb]
    simp only [List.mem_append, List.mem_singleton, h1.lab, h2.lab]
    omega
  · simp only [List.mem_append, List.mem_cons, List.not_mem_nil, or_false] at hr
    rcases hr with rfl | hr | rfl | hr | rfl | rfl
    · cases hh
    · have := h1.hop r hr hh
      omega
    · show a ≤ a + 1 ∧ a + 1 < c
      omega
    · have := h2.hop r hr hh
      omega
    · show a ≤ a ∧ a < c
      omega
    · cases hh
  · simp only [List.mem_append, List.mem_cons, List.not_mem_nil, or_false] at hr
    rcases hr with rfl | hr | rfl | hr | rfl | rfl
    · exact .label
    · exact h1.rows r hr
    · exact .jmp
    · exact h2.rows r hr
    · exact .jmp
    · exact .label
  · rw [Int.sub_zero] at s1
    have s1' : Stk (s.d - 0) s.g := by rw [Int.sub_zero]; exact s1
    have mk : ∀ x, x ∈ s.g → x.1 ≠ a ∧ x.1 ≠ a + 1 := fun x hx => by have := s2 x hx; omega
    have hm : ∀ {x : Nat × Int} {g : List (Nat × Int)}, s.g = x :: g → x ∈ s.g := fun hx => by rw [hx]; exact List.mem_cons_self
    obtain ⟨σ1, a1, a2⟩ := h1.go s (upS (upS σ0 a s) (a + 1) s) s1' (fun x hx => by have := s2 x hx; omega) (fun x g hx => by
      rw [upS_ne (mk x (hm hx)).2, upS_ne (mk x (hm hx)).1]
      exact s3 x g hx)
    obtain ⟨σ2, b1, b2⟩ := h2.go s σ1 s1' (fun x hx => by have := s2 x hx; omega) (fun x g hx => by
      rw [a1 x.1 (by have := s2 x (hm hx); omega), upS_ne (mk x (hm hx)).2, upS_ne (mk x (hm hx)).1]
      exact s3 x g hx)
    refine ⟨σ2, fun m hm => by rw [b1 m (by omega), a1 m (by omega), upS_ne (by omega), upS_ne (by omega)], fun B σ' hB hσ => ?_⟩
    have ea : σ' a = s := by rw [hσ a (by omega), b1 a (by omega), a1 a (by omega), upS_ne (by omega), upS_same]
    have eb : σ' (a + 1) = s := by rw [hσ (a + 1) (by omega), b1 (a + 1) (by omega), a1 (a + 1) (by omega), upS_same]
    have q1 := a2 B σ' (by omega) fun m hm => by rw [hσ m (by omega), b1 m (by omega)]
    have q2 := b2 B σ' hB hσ
    rw [Int.add_zero] at q2
    have z0 : s.d + 1 - 1 = s.d := by omega
    have es : (⟨s.d + 0, s.g⟩ : St) = s := by rw [Int.add_zero]
    rw [es]
    refine (Seq.one (go_label s1 ea)).append (q1.append ((Seq.one (z := s) (go_jmp ?_ ?_ fun y hy => ?_)).append (q2.append ⟨s, go_jmp s1' ea (fun y hy => by cases hy), s, go_label s1 eb, rfl⟩)))
    · show Stk (s.d + 1 - 1) s.g
      rw [z0]
      exact s1
    · rw [eb]
      show s = ⟨s.d + 1 - 1, s.g⟩
      rw [z0]
    · have hy : some (⟨s.d + 1 - 1, s.g⟩ : St) = some y := hy
      cases hy
      rw [z0]
theorem FragP.trid {F G H : List Row} {r : Row} {a b c e f l1 l2 l3 l4 l5 : Nat} (h1 : FragP F (a + 2) b 0 0) (h2 : FragP G b c 0 0) (hr : FragP [r] c c 1 (-1)) (h3 : FragP H c e 0 0) :
    FragP ([.tri a l1] ++ (F ++ (G ++ ([.endtry l2, .jmp .jump (a + 1) l3, .label a l4] ++ ([r] ++ (H ++ [.label (a + 1) l5])))))) a e 0 0 := by
  have e1 := h1.le
  have e2 := h2.le
  have e3 := h3.le
  have lr : labsOf [r] = [] := by
    cases e : labsOf [r] with
    | nil => rfl
    | cons x xs =>
      have := (hr.lab x).mp (by rw [e]; exact List.mem_cons_self)
      omega
  have lb : labsOf ([.tri a l1] ++ (F ++ (G ++ ([.endtry l2, .jmp .jump (a + 1) l3, .label a l4] ++ ([r] ++ (H ++ [.label (a + 1) l5])))))) = labsOf F ++ (labsOf G ++ ([a] ++ (labsOf H ++ [a + 1]))) := by
    rw [labs_app, labs_app, labs_app, labs_app, labs_app, labs_app, lr]
    rfl
  refine ⟨by omega, ?_, fun m => ?_, fun q hq hh => ?_, fun q hq => ?_, fun s σ0 s1 s2 s3 => ?_⟩
  · rw [lb]
    refine List.nodup_append.mpr ⟨h1.labs, List.nodup_append.mpr ⟨h2.labs, List.nodup_append.mpr ⟨by simp, List.nodup_append.mpr ⟨h3.labs, by simp, fun x hx y hy e => ?_⟩, fun x hx y hy e => ?_⟩, fun x hx y hy e => ?_⟩, fun x hx y hy e => ?_⟩
    · have := (h3.lab x).mp hx
      have := List.mem_singleton.mp hy
      omega
    · have := List.mem_singleton.mp hx
      simp only [List.mem_append, List.mem_singleton, h3.lab] at hy
      omega
    · have := (h2.lab x).mp hx
      simp only [List.mem_append, List.mem_singleton, h3.lab] at hy
      omega
    · have := (h1.lab x).mp hx
      simp only [List.mem_append, List.mem_singleton, h2.lab, h3.lab] at hy
      omega
  · rw [lb]
    simp only [List.mem_append, List.mem_singleton, h1.lab, h2.lab, h3.lab]
    omega
  · simp only [List.mem_append, List.mem_cons, List.not_mem_nil, or_false] at hq
    rcases hq with rfl | hq | hq | (rfl | rfl | rfl) | rfl | hq | rfl
    · show a ≤ a ∧ a < e
      omega
    · have := h1.hop q hq hh
      omega
    · have := h2.hop q hq hh
      omega
    · cases hh
    · show a ≤ a + 1 ∧ a + 1 < e
      omega
    · cases hh
    · have := hr.hop q (List.mem_singleton.mpr rfl) hh
      omega
    · have := h3.hop q hq hh
      omega
    · cases hh
  · simp only [List.mem_append, List.mem_cons, List.not_mem_nil, or_false] at hq
    rcases hq with rfl | hq | hq | (rfl | rfl | rfl) | rfl | hq | rfl
    · exact .tri
    · exact h1.rows q hq
    · exact h2.rows q hq
    · exact .endtry
    · exact .jmp
    · exact .label
    · exact hr.rows q (List.mem_singleton.mpr rfl)
    · exact h3.rows q hq
    · exact .label
  · rw [Int.sub_zero] at s1
    have s1' : Stk (s.d - 0) s.g := by rw [Int.sub_zero]; exact s1
    have s1p : Stk (s.d + 1) s.g := s1.up (by omega)
    have mk : ∀ x, x ∈ s.g → x.1 ≠ a ∧ x.1 ≠ a + 1 := fun x hx => by have := s2 x hx; omega
    have hm : ∀ {x : Nat × Int} {g : List (Nat × Int)}, s.g = x :: g → x ∈ s.g := fun hx => by rw [hx]; exact List.mem_cons_self
    have in2 : ∀ {n : Nat}, a + 2 ≤ n → ∀ x, x ∈ (a, s.d) :: s.g → x.1 < n := fun hn x hx => by
      rcases List.mem_cons.mp hx with rfl | hx
      · show a < _
        omega
      · have := s2 x hx
        omega
    obtain ⟨σ1, a1, a2⟩ := h1.go ⟨s.d, (a, s.d) :: s.g⟩ (upS (upS σ0 a ⟨s.d + 1, s.g⟩) (a + 1) s) (by rw [Int.sub_zero]; exact ⟨Int.le_refl _, s1⟩) (in2 (Nat.le_refl _)) (fun x g hx => by
      cases hx
      rw [upS_ne (by show a ≠ a + 1; omega), upS_same])
    obtain ⟨σ2, b1, b2⟩ := h2.go ⟨s.d, (a, s.d) :: s.g⟩ σ1 (by rw [Int.sub_zero]; exact ⟨Int.le_refl _, s1⟩) (in2 (by omega)) (fun x g hx => by
      cases hx
      rw [a1 a (by omega), upS_ne (by show a ≠ a + 1; omega), upS_same])
    have gd : ∀ x g, s.g = x :: g → σ2 x.1 = ⟨x.2 + 1, g⟩ := fun x g hx => by
      rw [b1 x.1 (by have := s2 x (hm hx); omega), a1 x.1 (by have := s2 x (hm hx); omega), upS_ne (mk x (hm hx)).2, upS_ne (mk x (hm hx)).1]
      exact s3 x g hx
    obtain ⟨σr, r1, r2⟩ := hr.go ⟨s.d + 1, s.g⟩ σ2 (by show Stk (s.d + 1 - 1) s.g; rw [show s.d + 1 - 1 = s.d by omega]; exact s1) (fun x hx => by have := s2 x hx; omega) gd
    obtain ⟨σ3, c1, c2⟩ := h3.go s σr s1' (fun x hx => by have := s2 x hx; omega) (fun x g hx => by
      rw [r1 x.1 (by have := s2 x (hm hx); omega)]
      exact gd x g hx)
    refine ⟨σ3, fun m hm => by rw [c1 m (by omega), r1 m (by omega), b1 m (by omega), a1 m (by omega), upS_ne (by omega), upS_ne (by omega)], fun B σ' hB hσ => ?_⟩
    have ea : σ' a = ⟨s.d + 1, s.g⟩ := by rw [hσ a (by omega), c1 a (by omega), r1 a (by omega), b1 a (by omega), a1 a (by omega), upS_ne (by omega), upS_same]
    have eb : σ' (a + 1) = s := by rw [hσ (a + 1) (by omega), c1 (a + 1) (by omega), r1 (a + 1) (by omega), b1 (a + 1) (by omega), a1 (a + 1) (by omega), upS_same]
    have q1 := a2 B σ' (by omega) fun m hm => by rw [hσ m (by omega), c1 m (by omega), r1 m (by omega), b1 m (by omega)]
    have q2 := b2 B σ' (by omega) fun m hm => by rw [hσ m (by omega), c1 m (by omega), r1 m (by omega)]
    have qr := r2 B σ' (by omega) fun m hm => by rw [hσ m (by omega), c1 m (by omega)]
    have q3 := c2 B σ' hB hσ
    have es : (⟨s.d + 0, s.g⟩ : St) = s := by rw [Int.add_zero]
    have es2 : (⟨s.d + 0, (a, s.d) :: s.g⟩ : St) = ⟨s.d, (a, s.d) :: s.g⟩ := by rw [Int.add_zero]
    have es3 : (⟨s.d + 1 + -1, s.g⟩ : St) = s := by rw [show s.d + 1 + -1 = s.d by omega]
    have q1 : Seq B σ' ⟨s.d, (a, s.d) :: s.g⟩ F ⟨s.d + 0, (a, s.d) :: s.g⟩ := q1
    have q2 : Seq B σ' ⟨s.d, (a, s.d) :: s.g⟩ G ⟨s.d + 0, (a, s.d) :: s.g⟩ := q2
    have qr : Seq B σ' ⟨s.d + 1, s.g⟩ [r] ⟨s.d + 1 + -1, s.g⟩ := qr
    rw [es2] at q1 q2
    rw [es3] at qr
    rw [es] at q3 ⊢
    refine (Seq.one (go_tri s1)).append (q1.append (q2.append (Seq.append (s1 := ⟨s.d + 1, s.g⟩) ⟨⟨s.d, s.g⟩, go_endtry ⟨Int.le_refl _, s1⟩, ⟨s.d + 1, s.g⟩, go_jmp s1' eb (fun y hy => by cases hy), ⟨s.d + 1, s.g⟩, go_label s1p ea, rfl⟩ (qr.append (q3.append (Seq.one (go_label s1 eb)))))))
abbrev rwD (rows : List Row) : D := .list (rows.map Row.d)
abbrev mkD (b : Nat) : D := .list ((List.range b).map dN)
theorem draw_eq {ns : List Int} {q many : Nat} {t : D} (hT : Town ns q t) (hq : q < 1000000) (hm : 0 < many) (hM : many < 1000000) : ∃ (r : Nat) (t' : D), f__law_draw [some (dL ns), some t, some (dN many)] = some (dN r, [none, some t', none]) ∧ r < many ∧ Town ns (q + 1) t' := by
  obtain ⟨d, o, e, r, t', e1, h0, h1, e2, h2⟩ := draw_ok hT hq (many := many) (by omega) (by omega)
  refine ⟨r.toNat, t', ?_, by omega, h2⟩
  have e : f__law_draw [some (dL ns), some t, some (dI many)] = some (d, o) := e
  rw [show (dN many : D) = dI many from rfl, e, e1, e2]
  show some (PyData.int r, _) = some (PyData.int (r.toNat : Int), _)
  rw [Int.toNat_of_nonneg h0]
theorem pick_eq {ns : List Int} {q : Nat} {t : D} {xs : List D} (hT : Town ns q t) (hq : q < 1000000) (hx : 0 < xs.length ∧ xs.length < 1073741824) : ∃ (d : D) (t' : D), f__law_pick [some (dL ns), some t, some (.list xs)] = some (d, [none, some t', none]) ∧ d ∈ xs ∧ Town ns (q + 1) t' := by
  obtain ⟨d, o, e, t', h1, h2, h3⟩ := pick_ok hT hq hx.1 hx.2
  refine ⟨d, t', ?_, h1, h3⟩
  rw [← h2]
  exact e
theorem const_eq {ns : List Int} {q : Nat} {t : D} (hT : Town ns q t) (hq : q < 1000000) : ∃ (v : Val) (t' : D), f__law_const [some (dL ns), some t] = some (v.d, [none, some t']) ∧ v.good ∧ valOk 1000000000 v = true ∧ v.fits ∧ Town ns (q + 1) t' := by
  obtain ⟨d, t', e, h1, h2⟩ := pick_eq (xs := [.int 0, .int 1, .int 2, .int 3, .int (-4), .int 7, .int 1000000000, .bool true, .bool false, .none, .str "Oops", .str "Zero"]) hT hq ⟨by decide, by decide⟩
  have hp : dPow [.int 10, .int 9] = some (.int 1000000000) := by kernel_rfl
  have ev : f__law_const [some (dL ns), some t] = some (d, [none, some t']) := by
    unfold f__law_const m__law_const
    exists hp, e
  rw [ev]
  have all : ∀ d, d ∈ [PyData.int 0, .int 1, .int 2, .int 3, .int (-4), .int 7, .int 1000000000, .bool true, .bool false, .none, .str "Oops", .str "Zero"] → ∃ v : Val, d = v.d ∧ v.good ∧ valOk 1000000000 v = true ∧ v.fits := fun d hd => by
    have num : ∀ i : Int, -1000000000 ≤ i ∧ i ≤ 1000000000 → ∃ v : Val, PyData.int i = v.d ∧ v.good ∧ valOk 1000000000 v = true ∧ v.fits := fun i h => ⟨.int i, rfl, (by show -BIG ≤ i ∧ i ≤ BIG; unfold BIG; omega), (Bool.and_eq_true_iff.mpr ⟨decide_eq_true h.1, decide_eq_true h.2⟩), trivial⟩
    simp only [List.mem_cons, List.not_mem_nil, or_false] at hd
    rcases hd with rfl | rfl | rfl | rfl | rfl | rfl | rfl | rfl | rfl | rfl | rfl | rfl
    · exact num 0 (by omega)
    · exact num 1 (by omega)
    · exact num 2 (by omega)
    · exact num 3 (by omega)
    · exact num (-4) (by omega)
    · exact num 7 (by omega)
    · exact num 1000000000 (by omega)
    · exact ⟨.bool true, rfl, trivial, rfl, trivial⟩
    · exact ⟨.bool false, rfl, trivial, rfl, trivial⟩
    · exact ⟨.non, rfl, trivial, rfl, trivial⟩
    · exact ⟨.str "Oops", rfl, by (show ("Oops" : Str) ∈ kinds; decide +kernel), by decide +kernel, by (show ("Oops" : Str).cps.size ≤ 100000; decide +kernel)⟩
    · exact ⟨.str "Zero", rfl, by (show ("Zero" : Str) ∈ kinds; decide +kernel), by decide +kernel, by (show ("Zero" : Str).cps.size ≤ 100000; decide +kernel)⟩
  obtain ⟨v, rfl, h3, h4, h5⟩ := all d h1
  exact ⟨v, t', rfl, h3, h4, h5, h2⟩
theorem div2 {n : Nat} : dDivX [dN n, .int 2] = some (dN (n / 2)) := by
  rw [divX_ok (by unfold BIG; omega) (by decide), Int.fdiv_eq_ediv_of_nonneg _ (by decide)]
  rfl
theorem len_rw {rows : List Row} : dLenU [rwD rows] = some (dN rows.length) := by
  show some (PyData.int ((rows.map Row.d).length : Nat)) = _
  rw [List.length_map]
theorem add_N {a b : Nat} : dAddU [dN a, dN b] = some (dN (a + b)) := rfl
theorem put_eq {rows : List Row} (r : Row) (h : rows.length < 1000000) (hl : r.line = 10 + rows.length / 2) : f__law_put [some (rwD rows), some (.str r.op), some r.arg] = some (.none, [some (rwD (rows ++ [r])), none, none]) := by
  unfold f__law_put m__law_put
  exists len_rw, div2, show PyData.int 10 = dN 10 from rfl, add_N, dAppend_eq (show (rows.map Row.d).length < 1000000 by rw [List.length_map]; exact h)
  rw [show PyData.int (((10 : Nat) : Int) + ((rows.length / 2 : Nat) : Int)) = dN r.line by rw [hl]; rfl, ← Row.d_eq]
  show _ = some (PyData.none, [some (PyData.list (List.map Row.d (rows ++ [r]))), none, none])
  rw [List.map_append]
  rfl
theorem mark_eq {b : Nat} (h : b < 1000000) : f__law_mark [some (mkD b)] = some (dN b, [some (mkD (b + 1))]) := by
  have e1 : dLenU [mkD b] = some (dN b) := by
    show some (PyData.int (((List.range b).map dN).length : Nat)) = _
    rw [List.length_map, List.length_range]
  have e2 : (List.range b).map dN ++ [dN b] = (List.range (b + 1)).map dN := by
    rw [List.range_succ, List.map_append]
    rfl
  have e3 : dIxU [mkD (b + 1), .int (-1)] = some (dN b) := by
    rw [dIxU_l, ← e2, atI_last]
  unfold f__law_mark m__law_mark
  exists e1, dAppend_eq (show ((List.range b).map dN).length < 1000000 by rw [List.length_map, List.length_range]; exact h), e2, e3
def mv : Nat → Nat
  | 0 => 2
  | d + 1 => 2 * mv d + 40
theorem frag_push {a l : Nat} {v : Val} (hg : v.good) (hv : valOk 1000000000 v = true) (hf : v.fits) : FragP [.push v l] a a 0 1 :=
  FragP.one (r := .push v l) rfl rfl rfl (.inr rfl) hf (fun hl => by show (decide (l ≤ 9999) && valOk 1000000000 v) = true; rw [decide_eq_true (show l ≤ 9999 from hl), hv]; rfl) (fun v' l' e => by cases e; exact hg)
def smallNames : List Str := ["a", "b", "c"]
theorem small_ok {x : Str} (h : x ∈ smallNames) : nameOk x = true ∧ x.cps.size ≤ 100000 := by
  have : ∀ x, x ∈ smallNames → nameOk x = true ∧ x.cps.size ≤ 100000 := by decide +kernel
  exact this x h
theorem frag_nm {a l : Nat} {o : NOp} {x : Str} (hx : x ∈ smallNames) {n k : Int} (hn : n = (Row.takes (.nm o x l) : Int)) (hk : k = Row.grows (.nm o x l)) : FragP [.nm o x l] a a n k := by
  subst hn hk
  exact FragP.one (r := .nm o x l) (by cases o <;> rfl) (by cases o <;> rfl) (by cases o <;> rfl) (.inr rfl) (small_ok hx).2 (fun hl => by show (decide (l ≤ 9999) && nameOk x) = true; rw [decide_eq_true (show l ≤ 9999 from hl), (small_ok hx).1]; rfl) (fun v' l' e => by cases e)
theorem frag_pr {a l : Nat} {o : POp} : FragP [.pr o l] a a 2 (-1) :=
  FragP.one (r := .pr o l) rfl rfl rfl (.inr rfl) trivial (fun hl => decide_eq_true (show l ≤ 9999 from hl)) (fun v' l' e => by cases e)
theorem frag_bare {a l : Nat} {o : BOp} {k : Int} (hk : Row.isEnd (.bare o l) = true ∨ k = Row.grows (.bare o l)) : FragP [.bare o l] a a 1 k :=
  FragP.one (r := .bare o l) (by cases o <;> rfl) (by cases o <;> rfl) (by cases o <;> rfl) hk trivial (fun hl => decide_eq_true (show l ≤ 9999 from hl)) (fun v' l' e => by cases e)
theorem frag_swap {a l n : Nat} (h : 2 ≤ n ∧ n ≤ 9) : FragP [.swap n l] a a n 0 :=
  FragP.one (r := .swap n l) rfl rfl rfl (.inr rfl) trivial (fun hl => by show (decide (l ≤ 9999) && (decide (2 ≤ n) && decide (n ≤ 9))) = true; rw [decide_eq_true (show l ≤ 9999 from hl), decide_eq_true h.1, decide_eq_true h.2]; rfl) (fun v' l' e => by cases e)
theorem frag_copy {a l n : Nat} (h : 1 ≤ n ∧ n ≤ 9) : FragP [.copy n l] a a n 1 :=
  FragP.one (r := .copy n l) rfl rfl rfl (.inr rfl) trivial (fun hl => by show (decide (l ≤ 9999) && (decide (1 ≤ n) && decide (n ≤ 9))) = true; rw [decide_eq_true (show l ≤ 9999 from hl), decide_eq_true h.1, decide_eq_true h.2]; rfl) (fun v' l' e => by cases e)
def kRng1 (p : List D × En) : Option (List D × En) := match p.1 with
  | [.int j] => if -(2 ^ 62) ≤ j ∧ j < 2 ^ 62 then some (dRng 0 j.toNat, p.2) else none
  | _ => none
theorem v_rng1 {ma : MA} {ρ : En} : mRng1 ma ρ = (ma ρ).bind kRng1 := rfl
theorem kRng1_i {n : Int} {ρ : En} : kRng1 ([.int n], ρ) = if -(2 ^ 62) ≤ n ∧ n < 2 ^ 62 then some (dRng 0 n.toNat, ρ) else none := rfl
def kPar (i j : Nat) (p : List D × En) : Option (Fl × En) := match p.1 with
  | [d1, d2] => some (.nx, (p.2.set i (some d1)).set j (some d2))
  | _ => none
theorem v_par {i j : Nat} {ma : MA} {ρ : En} : mPar i j ma ρ = (ma ρ).bind (kPar i j) := rfl
theorem kPar_2 {i j : Nat} {d e : D} {ρ : En} : kPar i j ([d, e], ρ) = some (.nx, (ρ.set i (some d)).set j (some e)) := rfl
local macro_rules | `(tactic| exists $es,*) => `(tactic| simp -implicitDefEqProofs only [v_var, v_mv, v_br, v_C, v_aNil, v_aCons, v_op, v_m1, v_m2, v_tr, v_and, v_or, v_not, v_andV, v_orV, v_notV, v_if, v_tup, v_lst, v_seq, v_skip, v_break, v_cont, v_drop, v_ret, v_ite, v_set, v_fz, v_th, v_asg, v_aug, v_call, v_fun, v_mut, v_no, v_pt, v_sl, v_chain, v_itL, v_for, v_lc, v_itU, v_it2, v_dc, v_callM, v_met, v_entM, v_outM, kMet_rt, kMet_nx, v_gIx, kIx_i, List.take_succ_cons, List.take_zero, List.drop_succ_cons, List.drop_zero, v_putU, v_disp, v_pCons, v_pNil,
  kTr_b, kSeq_nx, kSeq_rt, kSeq_bk, kSeq_ct, kFun_rt, kFun_nx, kPt_i, kSl_1, kCh_i, kCh2_i, kItL_l, kItU_l, kItU_t, kItU_s, Option.bind_some, Option.bind_none, at_zero, at_succ, at_nil, fill_nil, fill_fz, fill_ow, fill_br, Option.map_some, List.set_cons_zero, List.set_cons_succ, List.set_nil, List.map_cons, List.map_nil, List.cons_append, List.nil_append, List.append_nil, List.replicate_succ, List.replicate_zero, putB_nil, putB_br, putB_fz, putB_ow, outE_nil, outE_fz, outE_io, mgN_e, mgNil_e, mgCons_e, mgT_e, mgL_e, List.length_cons, List.length_nil, if_true, if_false, reduceIte, Bool.false_eq_true, Bool.not_true, Bool.not_false, decide_true, decide_false, dSub_i, dAdd_i, dAddU_i, dLt_i, dLe_i, dGt_i, dGe_i, dNeg_i, row_0, row_1, row_2, row_3, st_0, st_1, st_2, o_jump, o_branch, o_if, o_try, o_endtry, o_end, o_ncopy, o_faulty, o_counted, o_nm, o_label, o_hop, o_push, takes_ok, grows_ok, ix_gs, sl_gs, dEq_gs, dNe_gs, ix_wh, isTy_l, isTup_row, len_row, dEnum_map, Bool.true_and, Bool.false_and, Bool.and_true, Bool.and_false, v_rng1, kRng1_i, v_par, kPar_2, dEqU_i, $[$es:term],*])
theorem for_inv {j : Nat} {P : Nat → En → Prop} {g : MG} {b : MS} (hs : ∀ (i : Nat) ρ, i < j → P i ρ → ∃ ρ1 ρ2, g (dN i) ρ = some ρ1 ∧ b ρ1 = some (.nx, ρ2) ∧ P (i + 1) ρ2) {ρ : En} (h : P 0 ρ) : ∃ ρ', mForL (dRng 0 j) g b ρ = some (.nx, ρ') ∧ P j ρ' := by
  have key : ∀ (k i : Nat) ρ, i + k = j → P i ρ → ∃ ρ', mForL ((List.range' i k).map fun (x : Nat) => PyData.int (0 + (x : Int))) g b ρ = some (.nx, ρ') ∧ P j ρ' := by
    intro k
    induction k with
    | zero => exact fun i ρ e p => ⟨ρ, rfl, by rw [← e]; exact p⟩
    | succ k ih =>
      intro i ρ e p
      obtain ⟨ρ1, ρ2, e1, e2, e3⟩ := hs i ρ (by omega) p
      obtain ⟨ρ', f1, f2⟩ := ih (i + 1) ρ2 (by omega) e3
      refine ⟨ρ', ?_, f2⟩
      rw [List.range'_succ, List.map_cons, Int.zero_add]
      show ((g (dN i) ρ).bind fun _ => _) = _
      rw [e1]
      show ((b ρ1).bind fun _ => _) = _
      rw [e2]
      exact f1
  have := key j 0 ρ (by omega) h
  rwa [← List.range_eq_range'] at this
def Num (rows : List Row) (b N : Nat) (F : List Row) (c : Nat) : Prop := F.length ≤ N ∧ c ≤ b + N ∧ ∀ r, r ∈ F → r.line ≤ 10 + (rows.length + F.length)
theorem Num.nil {rows : List Row} {b : Nat} : Num rows b 0 [] b := ⟨Nat.le_refl _, Nat.le_refl _, fun r h => by cases h⟩
theorem Num.append {rows F G : List Row} {a b c N M : Nat} (h : Num rows a N F b) (k : Num (rows ++ F) b M G c) : Num rows a (N + M) (F ++ G) c := by
  obtain ⟨h1, h2, h3⟩ := h
  obtain ⟨k1, k2, k3⟩ := k
  refine ⟨by rw [List.length_append]; omega, by omega, fun r hr => ?_⟩
  rw [List.length_append]
  rcases List.mem_append.mp hr with hr | hr
  · have := h3 r hr
    omega
  · have := k3 r hr
    rw [List.length_append] at this
    omega
theorem Num.one {rows : List Row} {b : Nat} {r : Row} (h : r.line = 10 + rows.length / 2) : Num rows b 1 [r] b := ⟨Nat.le_refl _, by omega, fun x hx => by
  rw [List.mem_singleton.mp hx, h]
  omega⟩
theorem Num.mark {rows F : List Row} {b c N : Nat} (h : Num rows (b + 1) N F c) : Num rows b (N + 1) F c := ⟨by have := h.1; omega, by have := h.2.1; omega, h.2.2⟩
theorem Num.to {rows F : List Row} {b c N M : Nat} (h : Num rows b N F c) (hM : N ≤ M) : Num rows b M F c := ⟨by have := h.1; omega, by have := h.2.1; omega, h.2.2⟩
abbrev ln (R : List Row) : Nat := 10 + R.length / 2
theorem put_s {R : List Row} (r : Row) {o : Str} {a : D} (ho : r.op = o) (ha : r.arg = a) (h : R.length < 1000000) (hl : r.line = ln R) : f__law_put [some (rwD R), some (.str o), some a] = some (.none, [some (rwD (R ++ [r])), none, none]) := by
  rw [← ho, ← ha]
  exact put_eq r h hl
theorem draw_i {ns : List Int} {q : Nat} {t : D} (m : Int) (hT : Town ns q t) (hq : q < 1000000) (hm : 0 < m ∧ m < 1000000) : ∃ (r : Nat) (t' : D), f__law_draw [some (dL ns), some t, some (.int m)] = some (dN r, [none, some t', none]) ∧ (r : Int) < m ∧ Town ns (q + 1) t' := by
  obtain ⟨r, t', e, h1, h2⟩ := draw_eq hT hq (many := m.toNat) (by omega) (by omega)
  refine ⟨r, t', ?_, by omega, h2⟩
  rw [← e, show (dN m.toNat : D) = .int m by show PyData.int (m.toNat : Int) = _; rw [Int.toNat_of_nonneg (by omega)]]
def GenF (f : En → Option (D × En)) (d : Int) (N M : Nat) (n k : Int) : Prop := ∀ (ns : List Int) (t : D) (q : Nat) (rows : List Row) (b : Nat), Town ns q t → q + M < 1000000 → rows.length + N < 1000000 → b + N < 1000000 →
  ∃ (t' : D) (F : List Row) (c : Nat), f [some (dL ns), some t, some (rwD rows), some (mkD b), some (.int d)] = some (.none, [none, some t', some (rwD (rows ++ F)), some (mkD c), none]) ∧ Town ns (q + M) t' ∧ FragP F b c n k ∧ Num rows b N F c
theorem pairs_pick {d : D} (h : d ∈ [PyData.str "add", .str "sub", .str "mul", .str "div", .str "rest", .str "less", .str "same"]) : ∃ o : POp, d = .str o.s := by
  simp only [List.mem_cons, List.not_mem_nil, or_false] at h
  rcases h with rfl | rfl | rfl | rfl | rfl | rfl | rfl
  · exact ⟨.add, rfl⟩
  · exact ⟨.sub, rfl⟩
  · exact ⟨.mul, rfl⟩
  · exact ⟨.div, rfl⟩
  · exact ⟨.rest, rfl⟩
  · exact ⟨.less, rfl⟩
  · exact ⟨.same, rfl⟩
theorem names_pick {d : D} (h : d ∈ [PyData.str "a", .str "b", .str "c"]) : ∃ x : Str, x ∈ smallNames ∧ d = .str x := by
  simp only [List.mem_cons, List.not_mem_nil, or_false] at h
  rcases h with rfl | rfl | rfl
  · exact ⟨_, .head _, rfl⟩
  · exact ⟨_, .tail _ (.head _), rfl⟩
  · exact ⟨_, .tail _ (.tail _ (.head _)), rfl⟩
theorem first_draw {ns : List Int} {t : D} {q : Nat} {rows marks : D} {d : Nat} {rest : En} (many : Int) (hT : Town ns q t) (hq : q < 1000000) (hm : 4 ≤ many ∧ many < 1000000) : ∃ (r : Nat) (t' : D), (mSet 5 (mIf (mTr (m2 (.fz) (.fz) (mVar 4) (mC (.int 0)) dGt)) (mCall f__law_draw [.fz, .br 1, .fz] [] (maCons (mVar 0) (maCons (mBr 1) (maCons (mC (.int many)) maNil)))) (mCall f__law_draw [.fz, .br 1, .fz] [] (maCons (mVar 0) (maCons (mBr 1) (maCons (mC (.int 4)) maNil)))))) (some (dL ns) :: some t :: some rows :: some marks :: some (dN d) :: none :: rest) = some (.nx, some (dL ns) :: some t' :: some rows :: some marks :: some (dN d) :: some (dN r) :: rest) ∧ (r : Int) < many ∧ (d = 0 → r < 4) ∧ Town ns (q + 1) t' := by
  by_cases h : d = 0
  · subst h
    obtain ⟨r, t', e, h1, h2⟩ := draw_i 4 hT hq ⟨by decide, by decide⟩
    refine ⟨r, t', ?_, by omega, fun _ => by omega, h2⟩
    exists e, show decide (((0 : Nat) : Int) > 0) = false from rfl
  · obtain ⟨r, t', e, h1, h2⟩ := draw_i many hT hq ⟨by omega, by omega⟩
    refine ⟨r, t', ?_, h1, fun k => (h k).elim, h2⟩
    exists e, decide_eq_true (show (d : Int) > 0 by omega)
theorem put_push {R : List Row} {v : Val} (h : R.length < 1000000) : f__law_put [some (rwD R), some (.str "push"), some v.d] = some (.none, [some (rwD (R ++ [.push v (ln R)])), none, none]) := put_s (.push v (ln R)) rfl rfl h rfl
theorem put_load {R : List Row} {x : Str} (h : R.length < 1000000) : f__law_put [some (rwD R), some (.str "load"), some (.str x)] = some (.none, [some (rwD (R ++ [.nm .load x (ln R)])), none, none]) := put_s (.nm .load x (ln R)) rfl rfl h rfl
theorem put_store {R : List Row} {x : Str} (h : R.length < 1000000) : f__law_put [some (rwD R), some (.str "store"), some (.str x)] = some (.none, [some (rwD (R ++ [.nm .store x (ln R)])), none, none]) := put_s (.nm .store x (ln R)) rfl rfl h rfl
theorem put_clear {R : List Row} {x : Str} (h : R.length < 1000000) : f__law_put [some (rwD R), some (.str "clear"), some (.str x)] = some (.none, [some (rwD (R ++ [.nm .clear x (ln R)])), none, none]) := put_s (.nm .clear x (ln R)) rfl rfl h rfl
theorem put_pr {R : List Row} {o : POp} (h : R.length < 1000000) : f__law_put [some (rwD R), some (.str o.s), some .none] = some (.none, [some (rwD (R ++ [.pr o (ln R)])), none, none]) := put_s (.pr o (ln R)) rfl rfl h rfl
theorem put_bare {R : List Row} {o : BOp} (h : R.length < 1000000) : f__law_put [some (rwD R), some (.str o.s), some .none] = some (.none, [some (rwD (R ++ [.bare o (ln R)])), none, none]) := put_s (.bare o (ln R)) rfl rfl h rfl
theorem put_drop {R : List Row} (h : R.length < 1000000) : f__law_put [some (rwD R), some (.str "drop"), some .none] = some (.none, [some (rwD (R ++ [.bare .drop (ln R)])), none, none]) := put_s (.bare .drop (ln R)) rfl rfl h rfl
theorem put_tell {R : List Row} (h : R.length < 1000000) : f__law_put [some (rwD R), some (.str "tell"), some .none] = some (.none, [some (rwD (R ++ [.bare .tell (ln R)])), none, none]) := put_s (.bare .tell (ln R)) rfl rfl h rfl
theorem put_ret {R : List Row} (h : R.length < 1000000) : f__law_put [some (rwD R), some (.str "return"), some .none] = some (.none, [some (rwD (R ++ [.bare .ret (ln R)])), none, none]) := put_s (.bare .ret (ln R)) rfl rfl h rfl
theorem put_rais {R : List Row} (h : R.length < 1000000) : f__law_put [some (rwD R), some (.str "raise"), some .none] = some (.none, [some (rwD (R ++ [.bare .rais (ln R)])), none, none]) := put_s (.bare .rais (ln R)) rfl rfl h rfl
theorem put_endtry {R : List Row} (h : R.length < 1000000) : f__law_put [some (rwD R), some (.str "endtry"), some .none] = some (.none, [some (rwD (R ++ [.endtry (ln R)])), none, none]) := put_s (.endtry (ln R)) rfl rfl h rfl
theorem put_jmp {R : List Row} {o : JOp} {m : Nat} (h : R.length < 1000000) : f__law_put [some (rwD R), some (.str o.s), some (dN m)] = some (.none, [some (rwD (R ++ [.jmp o m (ln R)])), none, none]) := put_s (.jmp o m (ln R)) rfl rfl h rfl
theorem put_jump {R : List Row} {m : Nat} (h : R.length < 1000000) : f__law_put [some (rwD R), some (.str "jump"), some (dN m)] = some (.none, [some (rwD (R ++ [.jmp .jump m (ln R)])), none, none]) := put_s (.jmp .jump m (ln R)) rfl rfl h rfl
theorem put_iffalse {R : List Row} {m : Nat} (h : R.length < 1000000) : f__law_put [some (rwD R), some (.str "iffalse"), some (dN m)] = some (.none, [some (rwD (R ++ [.jmp .iffalse m (ln R)])), none, none]) := put_s (.jmp .iffalse m (ln R)) rfl rfl h rfl
theorem put_try {R : List Row} {m : Nat} (h : R.length < 1000000) : f__law_put [some (rwD R), some (.str "try"), some (dN m)] = some (.none, [some (rwD (R ++ [.tri m (ln R)])), none, none]) := put_s (.tri m (ln R)) rfl rfl h rfl
theorem put_label {R : List Row} {m : Nat} (h : R.length < 1000000) : f__law_put [some (rwD R), some (.str "label"), some (dN m)] = some (.none, [some (rwD (R ++ [.label m (ln R)])), none, none]) := put_s (.label m (ln R)) rfl rfl h rfl
theorem put_copy {R : List Row} {m : Nat} (h : R.length < 1000000) : f__law_put [some (rwD R), some (.str "copy"), some (dN m)] = some (.none, [some (rwD (R ++ [.copy m (ln R)])), none, none]) := put_s (.copy m (ln R)) rfl rfl h rfl
theorem put_swap {R : List Row} {m : Nat} (h : R.length < 1000000) : f__law_put [some (rwD R), some (.str "swap"), some (dN m)] = some (.none, [some (rwD (R ++ [.swap m (ln R)])), none, none]) := put_s (.swap m (ln R)) rfl rfl h rfl
theorem value_step {rv rt rm : En → Option (D × En)} {d N M L K : Nat} (hL : 12 ≤ L) (hK : 40 ≤ K) (hv : 0 < d → GenF rv ((d : Int) - 1) N M 0 1) (ht : 0 < d → GenF rt d (N + 8) M 0 1) (hm : 0 < d → GenF rm d L (K - 20) 0 1) :
    GenF (mFun [.fz, .io, .io, .io, .fz] 2 .fz (m__law_value rv rt rm)) d (2 * N + L) (2 * M + K) 0 1 := by
  intro ns t q rows b hT hq hr hb
  obtain ⟨w, t1, e1, w1, w2, T1⟩ := first_draw (rows := rwD rows) (marks := mkD b) (d := d) (rest := [none]) 12 hT (by omega) ⟨by decide, by decide⟩
  by_cases c1 : (w : Int) < 2
  · obtain ⟨v, t2, e2, v1, v2, v3, T2⟩ := const_eq T1 (by omega)
    refine ⟨t2, [.push v (ln rows)], b, ?_, T2.up (by omega), frag_push v1 v2 v3, (Num.one rfl).to (by omega)⟩
    rw [v_fun]; unfold m__law_value; simp only [List.cons_append, List.nil_append, List.replicate_succ, List.replicate_zero]; rw [v_seq, e1]
    exists decide_eq_true c1, e2, put_push (R := rows) (v := v) (by omega)
  by_cases c2 : (w : Int) < 4
  · obtain ⟨y, t2, e2, v1, T2⟩ := pick_eq T1 (by omega) (xs := [.str "a", .str "b", .str "c"]) ⟨by decide, by decide⟩
    obtain ⟨x, hx, rfl⟩ := names_pick v1
    refine ⟨t2, [.nm .load x (ln rows)], b, ?_, T2.up (by omega), frag_nm hx rfl rfl, (Num.one rfl).to (by omega)⟩
    rw [v_fun]; unfold m__law_value; simp only [List.cons_append, List.nil_append, List.replicate_succ, List.replicate_zero]; rw [v_seq, e1]
    exists decide_eq_false c1, decide_eq_true c2, e2, put_load (R := rows) (x := x) (by omega)
  have hd : 0 < d := by
    rcases Nat.eq_zero_or_pos d with h | h
    · have := w2 h
      omega
    · exact h
  by_cases c3 : (w : Int) < 7
  · obtain ⟨t2, F, c, e2, T2, f2, n2⟩ := hv hd ns t1 (q + 1) rows b T1 (by omega) (by omega) (by omega)
    have l2 := n2
    obtain ⟨t3, G, e, e3, T3, f3, n3⟩ := hv hd ns t2 (q + 1 + M) (rows ++ F) c T2 (by omega) (by have := n2.1; rw [List.length_append]; omega) (by have := n2.2.1; omega)
    obtain ⟨y, t4, e4, v1, T4⟩ := pick_eq T3 (by omega) (xs := [.str "add", .str "sub", .str "mul", .str "div", .str "rest", .str "less", .str "same"]) ⟨by decide, by decide⟩
    obtain ⟨o, rfl⟩ := pairs_pick v1
    refine ⟨t4, F ++ (G ++ [.pr o (ln (rows ++ F ++ G))]), e, ?_, T4.up (by omega), (f2.append (f3.append frag_pr (m := 1) (by omega) (by omega)) (m := 0) (by omega) (by omega)).to (by omega) (by omega), (n2.append (n3.append (Num.one rfl))).to (by omega)⟩
    rw [v_fun]; unfold m__law_value; simp only [List.cons_append, List.nil_append, List.replicate_succ, List.replicate_zero]; rw [v_seq, e1]
    simp only [← List.append_assoc]
    exists decide_eq_false c1, decide_eq_false c2, decide_eq_true c3, e2, e3, e4, put_pr (R := rows ++ F ++ G) (o := o) (by have := n2.1; have := n3.1; simp only [List.length_append]; omega)
  by_cases c4 : (w : Int) = 7
  · obtain ⟨t2, F, c, e2, T2, f2, n2⟩ := hv hd ns t1 (q + 1) rows b T1 (by omega) (by omega) (by omega)
    obtain ⟨y, t4, e4, v1, T4⟩ := pick_eq T2 (by omega) (xs := [.str "neg", .str "not"]) ⟨by decide, by decide⟩
    obtain ⟨o, h0, rfl⟩ : ∃ o : BOp, (o = .neg ∨ o = .not) ∧ y = .str o.s := by
      simp only [List.mem_cons, List.not_mem_nil, or_false] at v1
      rcases v1 with rfl | rfl
      · exact ⟨.neg, .inl rfl, rfl⟩
      · exact ⟨.not, .inr rfl, rfl⟩
    refine ⟨t4, F ++ [.bare o (ln (rows ++ F))], c, ?_, T4.up (by omega), (f2.append (frag_bare (k := 0) (.inr (by rcases h0 with rfl | rfl <;> rfl))) (m := 0) (by omega) (by omega)).to (by omega) (by omega), (n2.append (Num.one rfl)).to (by omega)⟩
    rw [v_fun]; unfold m__law_value; simp only [List.cons_append, List.nil_append, List.replicate_succ, List.replicate_zero]; rw [v_seq, e1]
    simp only [← List.append_assoc]
    exists decide_eq_false c1, decide_eq_false c2, decide_eq_false c3, decide_eq_true c4, e2, e4, put_bare (R := rows ++ F) (o := o) (by have := n2.1; simp only [List.length_append]; omega)
  by_cases c5 : (w : Int) = 8
  · obtain ⟨t2, F, c, e2, T2, f2, n2⟩ := hv hd ns t1 (q + 1) rows (b + 1) T1 (by omega) (by omega) (by omega)
    have l2 := n2.1
    have m2 := n2.2.1
    obtain ⟨y, t3, e3, v1, T3⟩ := pick_eq T2 (by omega) (xs := [.str "ortrue", .str "orfalse"]) ⟨by decide, by decide⟩
    obtain ⟨o, h0, rfl⟩ : ∃ o : JOp, (o = .ortrue ∨ o = .orfalse) ∧ y = .str o.s := by
      simp only [List.mem_cons, List.not_mem_nil, or_false] at v1
      rcases v1 with rfl | rfl
      · exact ⟨.ortrue, .inl rfl, rfl⟩
      · exact ⟨.orfalse, .inr rfl, rfl⟩
    obtain ⟨t4, G, e, e4, T4, f4, n4⟩ := hv hd ns t3 (q + 1 + M + 1) (rows ++ F ++ [.jmp o b (ln (rows ++ F))]) c T3 (by omega) (by simp only [List.length_append, List.length_cons, List.length_nil]; omega) (by omega)
    have l4 := n4.1
    refine ⟨t4, F ++ ([.jmp o b (ln (rows ++ F))] ++ (G ++ [.label b (ln (rows ++ F ++ [.jmp o b (ln (rows ++ F))] ++ G))])), e, ?_, T4.up (by omega), FragP.orv h0 f2 f4, (n2.append ((Num.one rfl).append (n4.append (Num.one rfl)))).mark.to (by omega)⟩
    rw [v_fun]; unfold m__law_value; simp only [List.cons_append, List.nil_append, List.replicate_succ, List.replicate_zero]; rw [v_seq, e1]
    simp only [← List.append_assoc]
    exists decide_eq_false c1, decide_eq_false c2, decide_eq_false c3, decide_eq_false c4, decide_eq_true c5, mark_eq (show b < 1000000 by omega), e2, e3, e4, put_jmp (R := rows ++ F) (o := o) (m := b) (by simp only [List.length_append]; omega),
      put_label (R := rows ++ F ++ [.jmp o b (ln (rows ++ F))] ++ G) (m := b) (by simp only [List.length_append, List.length_cons, List.length_nil]; omega)
    simp only [List.append_assoc, List.cons_append, List.nil_append]
  by_cases c6 : (w : Int) = 9
  · obtain ⟨t2, F, c, e2, T2, f2, n2⟩ := ht hd ns t1 (q + 1) rows b T1 (by omega) (by omega) (by omega)
    refine ⟨t2, F, c, ?_, T2.up (by omega), f2, n2.to (by omega)⟩
    rw [v_fun]; unfold m__law_value; simp only [List.cons_append, List.nil_append, List.replicate_succ, List.replicate_zero]; rw [v_seq, e1]
    exists decide_eq_false c1, decide_eq_false c2, decide_eq_false c3, decide_eq_false c4, decide_eq_false c5, decide_eq_true c6, e2
  · obtain ⟨t2, F, c, e2, T2, f2, n2⟩ := hm hd ns t1 (q + 1) rows b T1 (by omega) (by omega) (by omega)
    refine ⟨t2, F, c, ?_, T2.up (by omega), f2, n2.to (by omega)⟩
    rw [v_fun]; unfold m__law_value; simp only [List.cons_append, List.nil_append, List.replicate_succ, List.replicate_zero]; rw [v_seq, e1]
    exists decide_eq_false c1, decide_eq_false c2, decide_eq_false c3, decide_eq_false c4, decide_eq_false c5, decide_eq_false c6, e2
theorem tried_step {rv rt rm : En → Option (D × En)} {d : Int} {N M : Nat} (hv : GenF rv (d - 1) N M 0 1) :
    GenF (mFun [.fz, .io, .io, .io, .fz] 2 .fz (m__law_tried_value rv rt rm)) d (N + 8) M 0 1 := by
  intro ns t q rows b hT hq hr hb
  have l0 : (rows ++ [Row.tri b (ln rows)]).length = rows.length + 1 := by rw [List.length_append]; rfl
  obtain ⟨t2, F, c, e2, T2, f2, n2⟩ := hv ns t q (rows ++ [.tri b (ln rows)]) (b + 2) hT (by omega) (by omega) (by omega)
  have l2 := n2.1
  refine ⟨t2, [.tri b (ln rows)] ++ (F ++ [.endtry (ln (rows ++ [.tri b (ln rows)] ++ F)), .jmp .jump (b + 1) (10 + ((rows ++ [Row.tri b (ln rows)] ++ F).length + 1) / 2), .label b (10 + ((rows ++ [Row.tri b (ln rows)] ++ F).length + 2) / 2), .label (b + 1) (10 + ((rows ++ [Row.tri b (ln rows)] ++ F).length + 3) / 2)]), c, ?_, T2.up (by omega), FragP.triv f2, ?_⟩
  · rw [v_fun]
    unfold m__law_tried_value
    simp only [← List.append_assoc]
    generalize hR : rows ++ [Row.tri b (ln rows)] ++ F = R
    have lR : R.length ≤ rows.length + N + 1 := by rw [← hR, List.length_append, l0]; omega
    rw [hR] at e2
    have p2 := put_jump (R := R ++ [.endtry (ln R)]) (m := b + 1) (by simp only [List.length_append, List.length_cons, List.length_nil]; omega)
    have p3 := put_label (R := R ++ [.endtry (ln R)] ++ [.jmp .jump (b + 1) (ln (R ++ [.endtry (ln R)]))]) (m := b) (by simp only [List.length_append, List.length_cons, List.length_nil]; omega)
    have p4 := put_label (R := R ++ [.endtry (ln R)] ++ [.jmp .jump (b + 1) (ln (R ++ [.endtry (ln R)]))] ++ [.label b (ln (R ++ [.endtry (ln R)] ++ [.jmp .jump (b + 1) (ln (R ++ [.endtry (ln R)]))]))]) (m := b + 1) (by simp only [List.length_append, List.length_cons, List.length_nil]; omega)
    exists mark_eq (show b < 1000000 by omega), mark_eq (show b + 1 < 1000000 by omega), put_try (R := rows) (m := b) (by omega), e2, put_endtry (R := R) (by omega), p2, p3, p4
    simp only [List.append_assoc, List.cons_append, List.nil_append, ln, List.length_append, List.length_cons, List.length_nil]
  · refine (((Num.one rfl).append (n2.append (c := c) (M := 4) ⟨Nat.le_refl _, by omega, fun r hr => ?_⟩)).mark.mark (b := b)).to (by omega)
    simp only [List.mem_cons, List.not_mem_nil, or_false] at hr
    have := n2.2.1
    simp only [List.length_append, List.length_cons, List.length_nil] at hr ⊢
    rcases hr with rfl | rfl | rfl | rfl <;> simp only [Row.line, ln, List.length_append, List.length_cons, List.length_nil] <;> omega
local macro_rules | `(tactic| exists $es,*) => `(tactic| simp -implicitDefEqProofs only [v_var, v_mv, v_br, v_C, v_aNil, v_aCons, v_op, v_m1, v_m2, v_tr, v_and, v_or, v_not, v_andV, v_orV, v_notV, v_if, v_tup, v_lst, v_seq, v_skip, v_break, v_cont, v_drop, v_ret, v_ite, v_set, v_fz, v_th, v_asg, v_aug, v_call, v_fun, v_mut, v_no, v_pt, v_sl, v_chain, v_itL, v_for, v_lc, v_itU, v_it2, v_dc, v_callM, v_met, v_entM, v_outM, kMet_rt, kMet_nx, v_gIx, kIx_i, List.take_succ_cons, List.take_zero, List.drop_succ_cons, List.drop_zero, v_putU, v_disp, v_pCons, v_pNil,
  kTr_b, kSeq_nx, kSeq_rt, kSeq_bk, kSeq_ct, kFun_rt, kFun_nx, kPt_i, kSl_1, kCh_i, kCh2_i, kItL_l, kItU_l, kItU_t, kItU_s, Option.bind_some, Option.bind_none, at_zero, at_succ, at_nil, fill_nil, fill_fz, fill_ow, fill_br, Option.map_some, List.set_cons_zero, List.set_cons_succ, List.set_nil, List.map_cons, List.map_nil, List.cons_append, List.nil_append, List.append_nil, List.replicate_succ, List.replicate_zero, putB_nil, putB_br, putB_fz, putB_ow, outE_nil, outE_fz, outE_io, mgN_e, mgNil_e, mgCons_e, mgT_e, mgL_e, List.length_cons, List.length_nil, if_true, if_false, reduceIte, Bool.false_eq_true, Bool.not_true, Bool.not_false, decide_true, decide_false, dSub_i, dAdd_i, dAddU_i, dLt_i, dLe_i, dGt_i, dGe_i, dNeg_i, row_0, row_1, row_2, row_3, st_0, st_1, st_2, o_jump, o_branch, o_if, o_try, o_endtry, o_end, o_ncopy, o_faulty, o_counted, o_nm, o_label, o_hop, o_push, takes_ok, grows_ok, ix_gs, sl_gs, dEq_gs, dNe_gs, ix_wh, isTy_l, isTup_row, len_row, dEnum_map, Bool.true_and, Bool.false_and, Bool.and_true, Bool.and_false, v_rng1, v_par, kPar_2, dEqU_i, $[$es:term],*])
structure MvI (ns : List Int) (rows : List Row) (b d many q N : Nat) (k : Int) (ρ : En) : Prop where
  ex : ∃ t F c o, ρ = [some (dL ns), some t, some (rwD (rows ++ F)), some (mkD c), some (dN d), some (dN many), o] ∧ Town ns q t ∧ FragP F b c 0 k ∧ Num rows b N F c
theorem rng_ok {j : Nat} (h : j < 1000000) {ρ : En} : kRng1 ([dN j], ρ) = some (dRng 0 j, ρ) := by
  unfold kRng1
  dsimp only
  rw [p62]
  exact if_pos ⟨by omega, by omega⟩
def mvIte : MS := (mIte (mTr (m2 (.fz) (.fz) (mCall f__law_draw [.fz, .br 1, .fz] [] (maCons (mVar 0) (maCons (mBr 1) (maCons (mC (.int 2)) maNil)))) (mC (.int 0)) dEqU)) (mSeq (mDrop (mCall f__law_put [.br 2, .fz, .fz] [] (maCons (mBr 2) (maCons (mC (.str "copy")) (maCons (m2 (.fz) (.fz) (mC (.int 1)) (mCall f__law_draw [.fz, .br 1, .fz] [] (maCons (mVar 0) (maCons (mBr 1) (maCons (mVar 5) maNil)))) dAddU) maNil)))))
  (mDrop (mCall f__law_put [.br 2, .fz] [.none] (maCons (mBr 2) (maCons (mC (.str "drop")) maNil))))) mSkip)
theorem moved_step {rv rt rm : En → Option (D × En)} {d : Nat} (hv : GenF rv 0 12 40 0 1) :
    GenF (mFun [.fz, .io, .io, .io, .fz] 2 .fz (m__law_moved_value rv rt rm)) d 60 180 0 1 := by
  intro ns t q rows b hT hq hr hb
  obtain ⟨w, t1, e1, w1, T1⟩ := draw_i 3 hT (by omega) ⟨by decide, by decide⟩
  have w1 : w < 3 := by omega
  have em : (2 : Int) + (w : Int) = ((2 + w : Nat) : Int) := by omega
  -- the values
  obtain ⟨ρ2, l1, ⟨t2, F, c, o, rfl, T2, f2, n2⟩⟩ := for_inv (j := 2 + w) (P := fun i ρ => MvI ns rows b d (2 + w) (q + 1 + 40 * i) (12 * i) i ρ) (g := mgN 6)
    (b := mDrop (mCall rv [.fz, .br 1, .br 2, .br 3, .fz] [] (maCons (mVar 0) (maCons (mBr 1) (maCons (mBr 2) (maCons (mBr 3) (maCons (mC (.int 0)) maNil)))))))
    (fun i ρ hi hP => by
      obtain ⟨t, F, c, o, rfl, T, f, n⟩ := hP
      obtain ⟨t', G, e, k1, k2, k3, k4⟩ := hv ns t (q + 1 + 40 * i) (rows ++ F) c T (by omega) (by have := n.1; rw [List.length_append]; omega) (by have := n.2.1; omega)
      refine ⟨[some (dL ns), some t, some (rwD (rows ++ F)), some (mkD c), some (dN d), some (dN (2 + w)), some (dN i)], [some (dL ns), some t', some (rwD (rows ++ F ++ G)), some (mkD e), some (dN d), some (dN (2 + w)), some (dN i)], rfl, ?_, ⟨t', F ++ G, e, some (dN i), by rw [List.append_assoc], k2.up (by omega), (f.append k3 (m := 0) (by omega) (by omega)).to (by omega) (by omega), (n.append k4).to (by omega)⟩⟩
      exists k1) (ρ := [some (dL ns), some t1, some (rwD rows), some (mkD b), some (dN d), some (dN (2 + w)), none]) ⟨t1, [], b, none, by rw [List.append_nil], T1.up (by omega), FragP.nil, Num.nil.to (by omega)⟩
  have hm2 := n2.2.1
  have hl2 := n2.1
  -- the swaps
  obtain ⟨x, t3, e3, x1, T3⟩ := draw_i 4 T2 (by omega) ⟨by decide, by decide⟩
  have x1 : x < 4 := by omega
  obtain ⟨ρ4, l3, ⟨t4, F4, c4, o4, rfl, T4, f4, n4⟩⟩ := for_inv (j := x) (P := fun i ρ => MvI ns rows b d (2 + w) (q + 1 + 40 * (2 + w) + 1 + i) (48 + i) ((2 + w : Nat) : Int) ρ) (g := mgN 6)
    (b := (mDrop (mCall f__law_put [.br 2, .fz, .fz] [] (maCons (mBr 2) (maCons (mC (.str "swap")) (maCons (m2 (.fz) (.fz) (mC (.int 2)) (mCall f__law_draw [.fz, .br 1, .fz] [] (maCons (mVar 0) (maCons (mBr 1) (maCons (m2 (.fz) (.fz) (mVar 5) (mC (.int 1)) dSub) maNil)))) dAddU) maNil))))))
    (fun i ρ hi hP => by
      obtain ⟨t, F, c, o, rfl, T, f, n⟩ := hP
      obtain ⟨y, t', e, y1, T'⟩ := draw_i (((2 + w : Nat) : Int) - 1) T (by omega) ⟨by omega, by omega⟩
      refine ⟨[some (dL ns), some t, some (rwD (rows ++ F)), some (mkD c), some (dN d), some (dN (2 + w)), some (dN i)], [some (dL ns), some t', some (rwD (rows ++ F ++ [.swap (2 + y) (ln (rows ++ F))])), some (mkD c), some (dN d), some (dN (2 + w)), some (dN i)], rfl, ?_, ⟨t', F ++ [.swap (2 + y) (ln (rows ++ F))], c, some (dN i), by rw [List.append_assoc], T'.up (by omega), (f.append (frag_swap ⟨by omega, by omega⟩) (m := 0) (by omega) (by omega)).to (by omega) (by omega), (n.append (Num.one rfl)).to (by omega)⟩⟩
      exists e, show (2 : Int) + (y : Int) = ((2 + y : Nat) : Int) by omega, put_swap (R := rows ++ F) (m := 2 + y) (by have := n.1; rw [List.length_append]; omega)) (ρ := [some (dL ns), some t3, some (rwD (rows ++ F)), some (mkD c), some (dN d), some (dN (2 + w)), o]) ⟨t3, F, c, o, rfl, T3.up (by omega), f2, n2.to (by omega)⟩
  have hm4 := n4.2.1
  have hl4 := n4.1
  -- a copy
  obtain ⟨z, t5, e5, z1, T5⟩ := draw_i 2 T4 (by omega) ⟨by decide, by decide⟩
  obtain ⟨t6, F6, k6, T6, f6, n6⟩ : ∃ t6 F6, mvIte [some (dL ns), some t4, some (rwD (rows ++ F4)), some (mkD c4), some (dN d), some (dN (2 + w)), o4] = some (.nx, [some (dL ns), some t6, some (rwD (rows ++ F6)), some (mkD c4), some (dN d), some (dN (2 + w)), o4]) ∧ Town ns (q + 170) t6 ∧ FragP F6 b c4 0 ((2 + w : Nat) : Int) ∧ Num rows b 54 F6 c4 := by
    by_cases hz : (z : Int) = 0
    · obtain ⟨y, t6, e6, y1, T6⟩ := draw_i ((2 + w : Nat) : Int) T5 (by omega) ⟨by omega, by omega⟩
      refine ⟨t6, F4 ++ ([.copy (1 + y) (ln (rows ++ F4))] ++ [.bare .drop (ln (rows ++ F4 ++ [.copy (1 + y) (ln (rows ++ F4))]))]), ?_, T6.up (by omega), (f4.append ((frag_copy ⟨by omega, by omega⟩).append (frag_bare (o := .drop) (k := -1) (.inr rfl)) (m := ((1 + y : Nat) : Int)) (by omega) (by omega)) (m := 0) (by omega) (by omega)).to (by omega) (by omega), (n4.append ((Num.one rfl).append (Num.one rfl))).to (by omega)⟩
      simp only [← List.append_assoc]
      unfold mvIte
      exists e5, decide_eq_true hz, e6, show (1 : Int) + (y : Int) = ((1 + y : Nat) : Int) by omega, put_copy (R := rows ++ F4) (m := 1 + y) (by rw [List.length_append]; omega), put_drop (R := rows ++ F4 ++ [.copy (1 + y) (ln (rows ++ F4))]) (by simp only [List.length_append, List.length_cons, List.length_nil]; omega)
    · refine ⟨t5, F4, ?_, T5.up (by omega), f4, n4.to (by omega)⟩
      unfold mvIte
      exists e5, decide_eq_false hz
  have hm6 := n6.2.1
  have hl6 := n6.1
  -- all but one away
  obtain ⟨ρ8, l7, ⟨t8, F8, c8, o8, rfl, T8, f8, n8⟩⟩ := for_inv (j := 1 + w) (P := fun i ρ => MvI ns rows b d (2 + w) (q + 170 + i) (54 + i) (((2 + w : Nat) : Int) - i) ρ) (g := mgN 6)
    (b := (mDrop (mCall f__law_put [.br 2, .fz] [.none] (maCons (mBr 2) (maCons (mCall f__law_pick [.fz, .br 1, .fz] [] (maCons (mVar 0) (maCons (mBr 1) (maCons (mLst (maCons (mC (.str "drop")) (maCons (mC (.str "tell")) (maCons (mC (.str "same")) maNil)))) maNil)))) maNil)))))
    (fun i ρ hi hP => by
      obtain ⟨t, F, c, o, rfl, T, f, n⟩ := hP
      obtain ⟨y, t', e, y1, T'⟩ := pick_eq T (by omega) (xs := [.str "drop", .str "tell", .str "same"]) ⟨by decide, by decide⟩
      have hl : (rows ++ F).length < 1000000 := by have := n.1; rw [List.length_append]; omega
      obtain ⟨r, p1, p2, p3⟩ : ∃ r : Row, f__law_put [some (rwD (rows ++ F)), some y, some .none] = some (.none, [some (rwD (rows ++ F ++ [r])), none, none]) ∧ FragP [r] c c 2 (-1) ∧ r.line = ln (rows ++ F) := by
        simp only [List.mem_cons, List.not_mem_nil, or_false] at y1
        rcases y1 with rfl | rfl | rfl
        · exact ⟨_, put_drop hl, (frag_bare (.inr rfl)).to (by omega) rfl, rfl⟩
        · exact ⟨_, put_tell hl, (frag_bare (.inr rfl)).to (by omega) rfl, rfl⟩
        · exact ⟨_, put_pr (o := .same) hl, frag_pr, rfl⟩
      refine ⟨[some (dL ns), some t, some (rwD (rows ++ F)), some (mkD c), some (dN d), some (dN (2 + w)), some (dN i)], [some (dL ns), some t', some (rwD (rows ++ F ++ [r])), some (mkD c), some (dN d), some (dN (2 + w)), some (dN i)], rfl, ?_, ⟨t', F ++ [r], c, some (dN i), by rw [List.append_assoc], T'.up (by omega), (f.append p2 (m := 0) (by omega) (by omega)).to (by omega) (by omega), (n.append (Num.one p3)).to (by omega)⟩⟩
      exists e, p1) (ρ := [some (dL ns), some t6, some (rwD (rows ++ F6)), some (mkD c4), some (dN d), some (dN (2 + w)), o4]) ⟨t6, F6, c4, o4, rfl, T6.up (by omega), f6.to (by omega) (by omega), n6.to (by omega)⟩
  refine ⟨t8, F8, c8, ?_, T8.up (by omega), f8.to (by omega) (by omega), n8.to (by omega)⟩
  rw [v_fun]
  unfold m__law_moved_value
  rw [show (mIte (mTr (m2 (.fz) (.fz) (mCall f__law_draw [.fz, .br 1, .fz] [] (maCons (mVar 0) (maCons (mBr 1) (maCons (mC (.int 2)) maNil)))) (mC (.int 0)) dEqU)) (mSeq (mDrop (mCall f__law_put [.br 2, .fz, .fz] [] (maCons (mBr 2) (maCons (mC (.str "copy")) (maCons (m2 (.fz) (.fz) (mC (.int 1)) (mCall f__law_draw [.fz, .br 1, .fz] [] (maCons (mVar 0) (maCons (mBr 1) (maCons (mVar 5) maNil)))) dAddU) maNil)))))
  (mDrop (mCall f__law_put [.br 2, .fz] [.none] (maCons (mBr 2) (maCons (mC (.str "drop")) maNil))))) mSkip) = mvIte from rfl]
  have em2 : ((2 + w : Nat) : Int) - 1 = ((1 + w : Nat) : Int) := by omega
  exists e1, em, rng_ok (show 2 + w < 1000000 by omega), l1, e3, rng_ok (show x < 1000000 by omega), l3, k6, em2, rng_ok (show 1 + w < 1000000 by omega), l7
def nV : Nat → Nat
  | 0 => 12
  | d + 1 => 2 * nV d + 60
def mV : Nat → Nat
  | 0 => 40
  | d + 1 => 2 * mV d + 200
theorem value_all : ∀ (n d : Nat), 2 * d + 1 ≤ n → GenF (fG__law_value n).1 d (nV d) (mV d) 0 1
  | n + 1, 0, _ => value_step (N := 0) (M := 0) (L := 12) (K := 40) (by decide) (by decide) (fun h => (by cases h)) (fun h => (by cases h)) (fun h => (by cases h))
  | n + 3, d + 1, h => by
    have hv := value_all (n + 2) d (by omega)
    have hv' := value_all (n + 1) d (by omega)
    have h0 := value_all (n + 1) 0 (by omega)
    have e : (((d + 1 : Nat) : Int) - 1) = (d : Int) := by omega
    refine value_step (N := nV d) (M := mV d) (L := 60) (K := 200) (by decide) (by decide) (fun _ => by rw [e]; exact hv) (fun _ => tried_step (by rw [e]; exact hv')) (fun _ => moved_step ?_)
    exact h0
theorem value_ok {d : Nat} (h : d ≤ 3) : GenF f__law_value d (nV d) (mV d) 0 1 := value_all 8 d (by omega)
theorem GenF.to {f : En → Option (D × En)} {d : Int} {N M N' M' : Nat} {n k : Int} (h : GenF f d N M n k) (hN : N ≤ N') (hM : M ≤ M') : GenF f d N' M' n k := by
  intro ns t q rows b hT hq hr hb
  obtain ⟨t', F, c, e, h1, h2, h3⟩ := h ns t q rows b hT (by omega) (by omega) (by omega)
  exact ⟨t', F, c, e, h1.up (by omega), h2, h3.to hN⟩
theorem val0 : GenF f__law_value 0 12 40 0 1 := value_ok (d := 0) (by decide)
theorem val1 : GenF f__law_value 1 84 280 0 1 := value_ok (d := 1) (by decide)
theorem val2 : GenF f__law_value 2 228 760 0 1 := value_ok (d := 2) (by decide)
theorem deed_step {rd rc rr rt : En → Option (D × En)} {d N M L K : Nat} (hL : 240 ≤ L) (hK : 800 ≤ K) (hc : 0 < d → GenF rc d (2 * N + L) (2 * M + K - 2) 0 0) (hr1 : 0 < d → GenF rr d (2 * N + L) (2 * M + K - 2) 0 0) (ht : 0 < d → GenF rt d (2 * N + L) (2 * M + K - 2) 0 0) :
    GenF (mFun [.fz, .io, .io, .io, .fz] 1 .fz (m__law_deed rd rc rr rt)) d (2 * N + L) (2 * M + K) 0 0 := by
  intro ns t q rows b hT hq hr hb
  obtain ⟨w, t1, e1, w1, w2, T1⟩ := first_draw (rows := rwD rows) (marks := mkD b) (d := d) (rest := []) 10 hT (by omega) ⟨by decide, by decide⟩
  by_cases c1 : (w : Int) < 2
  · obtain ⟨t2, F, c, e2, T2, f2, n2⟩ := val1 ns t1 (q + 1) rows b T1 (by omega) (by omega) (by omega)
    have l2 := n2.1
    obtain ⟨y, t4, e4, v1, T4⟩ := pick_eq T2 (by omega) (xs := [.str "a", .str "b", .str "c"]) ⟨by decide, by decide⟩
    obtain ⟨x, hx, rfl⟩ := names_pick v1
    refine ⟨t4, F ++ [.nm .store x (ln (rows ++ F))], c, ?_, T4.up (by omega), (f2.append (frag_nm (n := 1) (k := -1) hx rfl rfl) (m := 0) (by omega) (by omega)).to (by omega) (by omega), (n2.append (Num.one rfl)).to (by omega)⟩
    rw [v_fun]; unfold m__law_deed; simp only [List.cons_append, List.nil_append, List.replicate_succ, List.replicate_zero]; rw [v_seq, e1]
    simp only [← List.append_assoc]
    exists decide_eq_true c1, e2, e4, put_store (R := rows ++ F) (x := x) (by simp only [List.length_append]; omega)
  by_cases c2 : (w : Int) = 2
  · obtain ⟨t2, F, c, e2, T2, f2, n2⟩ := val2 ns t1 (q + 1) rows b T1 (by omega) (by omega) (by omega)
    have l2 := n2.1
    refine ⟨t2, F ++ [.bare .tell (ln (rows ++ F))], c, ?_, T2.up (by omega), (f2.append (frag_bare (o := .tell) (k := -1) (.inr rfl)) (m := 0) (by omega) (by omega)).to (by omega) (by omega), (n2.append (Num.one rfl)).to (by omega)⟩
    rw [v_fun]; unfold m__law_deed; simp only [List.cons_append, List.nil_append, List.replicate_succ, List.replicate_zero]; rw [v_seq, e1]
    simp only [← List.append_assoc]
    exists decide_eq_false c1, decide_eq_true c2, e2, put_tell (R := rows ++ F) (by simp only [List.length_append]; omega)
  by_cases c3 : (w : Int) = 3
  · obtain ⟨y, t2, e2, v1, T2⟩ := pick_eq T1 (by omega) (xs := [.str "b", .str "c"]) ⟨by decide, by decide⟩
    obtain ⟨x, hx, rfl⟩ := names_pick (List.mem_cons_of_mem _ v1)
    refine ⟨t2, [.nm .clear x (ln rows)], b, ?_, T2.up (by omega), frag_nm hx rfl rfl, (Num.one rfl).to (by omega)⟩
    rw [v_fun]; unfold m__law_deed; simp only [List.cons_append, List.nil_append, List.replicate_succ, List.replicate_zero]; rw [v_seq, e1]
    exists decide_eq_false c1, decide_eq_false c2, decide_eq_true c3, e2, put_clear (R := rows) (x := x) (by omega)
  have hd : 0 < d := by
    rcases Nat.eq_zero_or_pos d with h | h
    · have := w2 h
      omega
    · exact h
  by_cases c4 : (w : Int) < 6
  · obtain ⟨t2, F, c, e2, T2, f2, n2⟩ := hc hd ns t1 (q + 1) rows b T1 (by omega) (by omega) (by omega)
    refine ⟨t2, F, c, ?_, T2.up (by omega), f2, n2.to (by omega)⟩
    rw [v_fun]; unfold m__law_deed; simp only [List.cons_append, List.nil_append, List.replicate_succ, List.replicate_zero]; rw [v_seq, e1]
    exists decide_eq_false c1, decide_eq_false c2, decide_eq_false c3, decide_eq_true c4, e2
  by_cases c5 : (w : Int) < 8
  · obtain ⟨t2, F, c, e2, T2, f2, n2⟩ := hr1 hd ns t1 (q + 1) rows b T1 (by omega) (by omega) (by omega)
    refine ⟨t2, F, c, ?_, T2.up (by omega), f2, n2.to (by omega)⟩
    rw [v_fun]; unfold m__law_deed; simp only [List.cons_append, List.nil_append, List.replicate_succ, List.replicate_zero]; rw [v_seq, e1]
    exists decide_eq_false c1, decide_eq_false c2, decide_eq_false c3, decide_eq_false c4, decide_eq_true c5, e2
  by_cases c6 : (w : Int) = 8
  · obtain ⟨t2, F, c, e2, T2, f2, n2⟩ := ht hd ns t1 (q + 1) rows b T1 (by omega) (by omega) (by omega)
    refine ⟨t2, F, c, ?_, T2.up (by omega), f2, n2.to (by omega)⟩
    rw [v_fun]; unfold m__law_deed; simp only [List.cons_append, List.nil_append, List.replicate_succ, List.replicate_zero]; rw [v_seq, e1]
    exists decide_eq_false c1, decide_eq_false c2, decide_eq_false c3, decide_eq_false c4, decide_eq_false c5, decide_eq_true c6, e2
  · obtain ⟨t2, F, c, e2, T2, f2, n2⟩ := val0 ns t1 (q + 1) rows b T1 (by omega) (by omega) (by omega)
    have l2 := n2.1
    refine ⟨t2, F ++ [.bare .rais (ln (rows ++ F))], c, ?_, T2.up (by omega), (f2.append (frag_bare (o := .rais) (k := -1) (.inl rfl)) (m := 0) (by omega) (by omega)).to (by omega) (by omega), (n2.append (Num.one rfl)).to (by omega)⟩
    rw [v_fun]; unfold m__law_deed; simp only [List.cons_append, List.nil_append, List.replicate_succ, List.replicate_zero]; rw [v_seq, e1]
    simp only [← List.append_assoc]
    exists decide_eq_false c1, decide_eq_false c2, decide_eq_false c3, decide_eq_false c4, decide_eq_false c5, decide_eq_false c6, e2, put_rais (R := rows ++ F) (by simp only [List.length_append]; omega)
def mchIte (rd : En → Option (D × En)) : MS := (mIte (mTr (m2 (.fz) (.fz) (mCall f__law_draw [.fz, .br 1, .fz] [] (maCons (mVar 0) (maCons (mBr 1) (maCons (mC (.int 2)) maNil)))) (mC (.int 0)) dEqU)) (mDrop (mCall rd [.fz, .br 1, .br 2, .br 3, .fz] [] (maCons (mVar 0) (maCons (mBr 1) (maCons (mBr 2) (maCons (mBr 3) (maCons (m2 (.fz) (.fz) (mVar 4) (mC (.int 1)) dSub) maNil))))))) mSkip)
section
variable {rd rc rr rt : En → Option (D × En)} {d : Int} {N M : Nat}
theorem choice_step (hd : GenF rd (d - 1) N M 0 0) : GenF (mFun [.fz, .io, .io, .io, .fz] 2 .fz (m__law_choice rd rc rr rt)) d (2 * N + 100) (2 * M + 300) 0 0 := by
  intro ns t q rows b hT hq hr hb
  have k1 := mark_eq (show b < 1000000 by omega)
  have k2 := mark_eq (show b + 1 < 1000000 by omega)
  obtain ⟨t2, V, c, e2, T2, f2, n2⟩ := val1 ns t q rows (b + 2) hT (by omega) (by omega) (by omega)
  have l2 := n2.1
  have m2' := n2.2.1
  obtain ⟨y, t3, e3, v1, T3⟩ := pick_eq T2 (by omega) (xs := [.str "iffalse", .str "iftrue"]) ⟨by decide, by decide⟩
  obtain ⟨o, h0, rfl⟩ : ∃ o : JOp, (o = .iftrue ∨ o = .iffalse) ∧ y = .str o.s := by
    simp only [List.mem_cons, List.not_mem_nil, or_false] at v1
    rcases v1 with rfl | rfl
    · exact ⟨.iffalse, .inr rfl, rfl⟩
    · exact ⟨.iftrue, .inl rfl, rfl⟩
  have e4 := put_jmp (R := rows ++ V) (o := o) (m := b) (by simp only [List.length_append]; omega)
  generalize hR1 : ln (rows ++ V) = a1 at e4
  have n4 : Num (rows ++ V) c 1 [.jmp o b a1] c := Num.one hR1.symm
  obtain ⟨t5, F, e, e5, T5, f5, n5⟩ := hd ns t3 (q + 280 + 1) (rows ++ V ++ [.jmp o b a1]) c T3 (by omega) (by simp only [List.length_append, List.length_cons, List.length_nil]; omega) (by omega)
  have l5 := n5.1
  have m5 := n5.2.1
  have e6 := put_jump (R := rows ++ V ++ [.jmp o b a1] ++ F) (m := b + 1) (by simp only [List.length_append, List.length_cons, List.length_nil]; omega)
  generalize hR2 : ln (rows ++ V ++ [.jmp o b a1] ++ F) = a2 at e6
  have n6 : Num (rows ++ V ++ [.jmp o b a1] ++ F) e 1 [.jmp .jump (b + 1) a2] e := Num.one hR2.symm
  have e7 := put_label (R := rows ++ V ++ [.jmp o b a1] ++ F ++ [.jmp .jump (b + 1) a2]) (m := b) (by simp only [List.length_append, List.length_cons, List.length_nil]; omega)
  generalize hR3 : ln (rows ++ V ++ [.jmp o b a1] ++ F ++ [.jmp .jump (b + 1) a2]) = a3 at e7
  have n7 : Num (rows ++ V ++ [.jmp o b a1] ++ F ++ [.jmp .jump (b + 1) a2]) e 1 [.label b a3] e := Num.one hR3.symm
  obtain ⟨z, t8, e8, z1, T8⟩ := draw_i 2 T5 (by omega) ⟨by decide, by decide⟩
  obtain ⟨t9, G, g, e9, T9, f9, n9⟩ : ∃ (t9 : D) (G : List Row) (g : Nat), mchIte rd [some (dL ns), some t5, some (rwD (rows ++ V ++ [.jmp o b a1] ++ F ++ [.jmp .jump (b + 1) a2] ++ [.label b a3])), some (mkD e), some (.int d), some (dN b), some (dN (b + 1))] = some (.nx, [some (dL ns), some t9, some (rwD (rows ++ V ++ [.jmp o b a1] ++ F ++ [.jmp .jump (b + 1) a2] ++ [.label b a3] ++ G)), some (mkD g), some (.int d), some (dN b), some (dN (b + 1))]) ∧ Town ns (q + 280 + 1 + M + 1 + M) t9 ∧ FragP G e g 0 0 ∧ Num (rows ++ V ++ [.jmp o b a1] ++ F ++ [.jmp .jump (b + 1) a2] ++ [.label b a3]) e N G g := by
    by_cases hz : (z : Int) = 0
    · obtain ⟨t9, G, g, e9, T9, f9, n9⟩ := hd ns t8 (q + 280 + 1 + M + 1) (rows ++ V ++ [.jmp o b a1] ++ F ++ [.jmp .jump (b + 1) a2] ++ [.label b a3]) e T8 (by omega) (by simp only [List.length_append, List.length_cons, List.length_nil]; omega) (by omega)
      refine ⟨t9, G, g, ?_, T9, f9, n9⟩
      unfold mchIte
      exists e8, decide_eq_true hz, e9
    · refine ⟨t8, [], e, ?_, T8.up (by omega), .nil, Num.nil.to (by omega)⟩
      unfold mchIte
      exists e8, decide_eq_false hz
  have l9 := n9.1
  have m9 := n9.2.1
  have e10 := put_label (R := rows ++ V ++ [.jmp o b a1] ++ F ++ [.jmp .jump (b + 1) a2] ++ [.label b a3] ++ G) (m := b + 1) (by simp only [List.length_append, List.length_cons, List.length_nil]; omega)
  generalize hR4 : ln (rows ++ V ++ [.jmp o b a1] ++ F ++ [.jmp .jump (b + 1) a2] ++ [.label b a3] ++ G) = a4 at e10
  have n10 : Num (rows ++ V ++ [.jmp o b a1] ++ F ++ [.jmp .jump (b + 1) a2] ++ [.label b a3] ++ G) g 1 [.label (b + 1) a4] g := Num.one hR4.symm
  refine ⟨t9, V ++ ([.jmp o b a1] ++ (F ++ ([.jmp .jump (b + 1) a2, .label b a3] ++ (G ++ [.label (b + 1) a4])))), g, ?_, T9.up (by omega), FragP.choice h0 f2 f5 f9, ?_⟩
  · rw [v_fun]
    unfold m__law_choice
    rw [show (mIte (mTr (m2 (.fz) (.fz) (mCall f__law_draw [.fz, .br 1, .fz] [] (maCons (mVar 0) (maCons (mBr 1) (maCons (mC (.int 2)) maNil)))) (mC (.int 0)) dEqU)) (mDrop (mCall rd [.fz, .br 1, .br 2, .br 3, .fz] [] (maCons (mVar 0) (maCons (mBr 1) (maCons (mBr 2) (maCons (mBr 3) (maCons (m2 (.fz) (.fz) (mVar 4) (mC (.int 1)) dSub) maNil))))))) mSkip) = mchIte rd from rfl]
    exists k1, k2, e2, e3, e4, e5, e6, e7, e9, e10
    simp only [List.append_assoc, List.cons_append, List.nil_append]
  · have := (((((((n2.append n4).append (by rw [← List.append_assoc]; exact n5)).append (by simp only [← List.append_assoc]; exact n6)).append (by simp only [← List.append_assoc]; exact n7)).append (by simp only [← List.append_assoc]; exact n9)).append (by simp only [← List.append_assoc]; exact n10)).mark.mark (b := b)).to (M := 2 * N + 100) (by omega)
    simpa only [List.append_assoc, List.cons_append, List.nil_append] using this
theorem round_step (hd : GenF rd (d - 1) N M 0 0) : GenF (mFun [.fz, .io, .io, .io, .fz] 2 .fz (m__law_round rd rc rr rt)) d (N + 100) (M + 300) 0 0 := by
  intro ns t q rows b hT hq hr hb
  have k1 := mark_eq (show b < 1000000 by omega)
  have k2 := mark_eq (show b + 1 < 1000000 by omega)
  have e1 := put_label (R := rows) (m := b) (by omega)
  generalize hR1 : ln rows = a1 at e1
  have n1 : Num rows (b + 2) 1 [.label b a1] (b + 2) := Num.one hR1.symm
  obtain ⟨t2, V, c, e2, T2, f2, n2⟩ := val1 ns t q (rows ++ [.label b a1]) (b + 2) hT (by omega) (by simp only [List.length_append, List.length_cons, List.length_nil]; omega) (by omega)
  have l2 := n2.1
  have m2' := n2.2.1
  have e4 := put_iffalse (R := rows ++ [.label b a1] ++ V) (m := b + 1) (by simp only [List.length_append, List.length_cons, List.length_nil]; omega)
  generalize hR2 : ln (rows ++ [.label b a1] ++ V) = a2 at e4
  have n4 : Num (rows ++ [.label b a1] ++ V) c 1 [.jmp .iffalse (b + 1) a2] c := Num.one hR2.symm
  obtain ⟨t5, F, e, e5, T5, f5, n5⟩ := hd ns t2 (q + 280) (rows ++ [.label b a1] ++ V ++ [.jmp .iffalse (b + 1) a2]) c T2 (by omega) (by simp only [List.length_append, List.length_cons, List.length_nil]; omega) (by omega)
  have l5 := n5.1
  have m5 := n5.2.1
  have e6 := put_jump (R := rows ++ [.label b a1] ++ V ++ [.jmp .iffalse (b + 1) a2] ++ F) (m := b) (by simp only [List.length_append, List.length_cons, List.length_nil]; omega)
  generalize hR3 : ln (rows ++ [.label b a1] ++ V ++ [.jmp .iffalse (b + 1) a2] ++ F) = a3 at e6
  have n6 : Num (rows ++ [.label b a1] ++ V ++ [.jmp .iffalse (b + 1) a2] ++ F) e 1 [.jmp .jump b a3] e := Num.one hR3.symm
  have e7 := put_label (R := rows ++ [.label b a1] ++ V ++ [.jmp .iffalse (b + 1) a2] ++ F ++ [.jmp .jump b a3]) (m := b + 1) (by simp only [List.length_append, List.length_cons, List.length_nil]; omega)
  generalize hR4 : ln (rows ++ [.label b a1] ++ V ++ [.jmp .iffalse (b + 1) a2] ++ F ++ [.jmp .jump b a3]) = a4 at e7
  have n7 : Num (rows ++ [.label b a1] ++ V ++ [.jmp .iffalse (b + 1) a2] ++ F ++ [.jmp .jump b a3]) e 1 [.label (b + 1) a4] e := Num.one hR4.symm
  refine ⟨t5, [.label b a1] ++ (V ++ ([.jmp .iffalse (b + 1) a2] ++ (F ++ [.jmp .jump b a3, .label (b + 1) a4]))), e, ?_, T5.up (by omega), FragP.round f2 f5, ?_⟩
  · rw [v_fun]
    unfold m__law_round
    exists k1, k2, e1, e2, e4, e5, e6, e7
    simp only [List.append_assoc, List.cons_append, List.nil_append]
  · have := ((((((n1.append n2).append (by simp only [← List.append_assoc]; exact n4)).append (by simp only [← List.append_assoc]; exact n5)).append (by simp only [← List.append_assoc]; exact n6)).append (by simp only [← List.append_assoc]; exact n7)).mark.mark (b := b)).to (M := N + 100) (by omega)
    simpa only [List.append_assoc, List.cons_append, List.nil_append] using this
theorem trid_step (hd : GenF rd (d - 1) N M 0 0) (h0 : GenF rd 0 240 800 0 0) : GenF (mFun [.fz, .io, .io, .io, .fz] 2 .fz (m__law_tried rd rc rr rt)) d (N + 490) (M + 1610) 0 0 := by
  intro ns t q rows b hT hq hr hb
  have k1 := mark_eq (show b < 1000000 by omega)
  have k2 := mark_eq (show b + 1 < 1000000 by omega)
  have e1 := put_try (R := rows) (m := b) (by omega)
  generalize hR1 : ln rows = a1 at e1
  have n1 : Num rows (b + 2) 1 [.tri b a1] (b + 2) := Num.one hR1.symm
  obtain ⟨t2, F, c, e2, T2, f2, n2⟩ := hd ns t q (rows ++ [.tri b a1]) (b + 2) hT (by omega) (by simp only [List.length_append, List.length_cons, List.length_nil]; omega) (by omega)
  have l2 := n2.1
  have m2' := n2.2.1
  obtain ⟨t3, G, e, e3, T3, f3, n3⟩ := h0 ns t2 (q + M) (rows ++ [.tri b a1] ++ F) c T2 (by omega) (by simp only [List.length_append, List.length_cons, List.length_nil]; omega) (by omega)
  have l3 := n3.1
  have m3 := n3.2.1
  have e4 := put_endtry (R := rows ++ [.tri b a1] ++ F ++ G) (by simp only [List.length_append, List.length_cons, List.length_nil]; omega)
  generalize hR2 : ln (rows ++ [.tri b a1] ++ F ++ G) = a2 at e4
  have n4 : Num (rows ++ [.tri b a1] ++ F ++ G) e 1 [.endtry a2] e := Num.one hR2.symm
  have e5 := put_jump (R := rows ++ [.tri b a1] ++ F ++ G ++ [.endtry a2]) (m := b + 1) (by simp only [List.length_append, List.length_cons, List.length_nil]; omega)
  generalize hR3 : ln (rows ++ [.tri b a1] ++ F ++ G ++ [.endtry a2]) = a3 at e5
  have n5 : Num (rows ++ [.tri b a1] ++ F ++ G ++ [.endtry a2]) e 1 [.jmp .jump (b + 1) a3] e := Num.one hR3.symm
  have e6 := put_label (R := rows ++ [.tri b a1] ++ F ++ G ++ [.endtry a2] ++ [.jmp .jump (b + 1) a3]) (m := b) (by simp only [List.length_append, List.length_cons, List.length_nil]; omega)
  generalize hR4 : ln (rows ++ [.tri b a1] ++ F ++ G ++ [.endtry a2] ++ [.jmp .jump (b + 1) a3]) = a4 at e6
  have n6 : Num (rows ++ [.tri b a1] ++ F ++ G ++ [.endtry a2] ++ [.jmp .jump (b + 1) a3]) e 1 [.label b a4] e := Num.one hR4.symm
  obtain ⟨y, t7, e7, v1, T7⟩ := pick_eq T3 (by omega) (xs := [.str "drop", .str "tell", .str "raise"]) ⟨by decide, by decide⟩
  have hl : (rows ++ [Row.tri b a1] ++ F ++ G ++ [Row.endtry a2] ++ [Row.jmp .jump (b + 1) a3] ++ [Row.label b a4]).length < 1000000 := by simp only [List.length_append, List.length_cons, List.length_nil]; omega
  obtain ⟨r, p1, p2, p3⟩ : ∃ r : Row, f__law_put [some (rwD (rows ++ [.tri b a1] ++ F ++ G ++ [.endtry a2] ++ [.jmp .jump (b + 1) a3] ++ [.label b a4])), some y, some .none] = some (.none, [some (rwD (rows ++ [.tri b a1] ++ F ++ G ++ [.endtry a2] ++ [.jmp .jump (b + 1) a3] ++ [.label b a4] ++ [r])), none, none]) ∧ FragP [r] e e 1 (-1) ∧ r.line = ln (rows ++ [.tri b a1] ++ F ++ G ++ [.endtry a2] ++ [.jmp .jump (b + 1) a3] ++ [.label b a4]) := by
    simp only [List.mem_cons, List.not_mem_nil, or_false] at v1
    rcases v1 with rfl | rfl | rfl
    · exact ⟨_, put_drop hl, frag_bare (.inr rfl), rfl⟩
    · exact ⟨_, put_tell hl, frag_bare (.inr rfl), rfl⟩
    · exact ⟨_, put_rais hl, frag_bare (.inl rfl), rfl⟩
  have n7 : Num (rows ++ [.tri b a1] ++ F ++ G ++ [.endtry a2] ++ [.jmp .jump (b + 1) a3] ++ [.label b a4]) e 1 [r] e := Num.one p3
  obtain ⟨t8, H, g, e8, T8, f8, n8⟩ := h0 ns t7 (q + M + 800 + 1) (rows ++ [.tri b a1] ++ F ++ G ++ [.endtry a2] ++ [.jmp .jump (b + 1) a3] ++ [.label b a4] ++ [r]) e T7 (by omega) (by simp only [List.length_append, List.length_cons, List.length_nil]; omega) (by omega)
  have l8 := n8.1
  have m8 := n8.2.1
  have e9 := put_label (R := rows ++ [.tri b a1] ++ F ++ G ++ [.endtry a2] ++ [.jmp .jump (b + 1) a3] ++ [.label b a4] ++ [r] ++ H) (m := b + 1) (by simp only [List.length_append, List.length_cons, List.length_nil]; omega)
  generalize hR5 : ln (rows ++ [.tri b a1] ++ F ++ G ++ [.endtry a2] ++ [.jmp .jump (b + 1) a3] ++ [.label b a4] ++ [r] ++ H) = a5 at e9
  have n9 : Num (rows ++ [.tri b a1] ++ F ++ G ++ [.endtry a2] ++ [.jmp .jump (b + 1) a3] ++ [.label b a4] ++ [r] ++ H) g 1 [.label (b + 1) a5] g := Num.one hR5.symm
  refine ⟨t8, [.tri b a1] ++ (F ++ (G ++ ([.endtry a2, .jmp .jump (b + 1) a3, .label b a4] ++ ([r] ++ (H ++ [.label (b + 1) a5]))))), g, ?_, T8.up (by omega), FragP.trid (f := 0) f2 f3 p2 f8, ?_⟩
  · rw [v_fun]
    unfold m__law_tried
    exists k1, k2, e1, e2, e3, e4, e5, e6, e7, p1, e8, e9
    simp only [List.append_assoc, List.cons_append, List.nil_append]
  · have := (((((((((n1.append n2).append (by simp only [← List.append_assoc]; exact n3)).append (by simp only [← List.append_assoc]; exact n4)).append (by simp only [← List.append_assoc]; exact n5)).append (by simp only [← List.append_assoc]; exact n6)).append (by simp only [← List.append_assoc]; exact n7)).append (by simp only [← List.append_assoc]; exact n8)).append (by simp only [← List.append_assoc]; exact n9)).mark.mark (b := b)).to (M := N + 490) (by omega)
    simpa only [List.append_assoc, List.cons_append, List.nil_append] using this
end
def nD : Nat → Nat
  | 0 => 240
  | d + 1 => 2 * nD d + 600
def mD : Nat → Nat
  | 0 => 800
  | d + 1 => 2 * mD d + 2000
theorem deed_all : ∀ (n d : Nat), 2 * d + 1 ≤ n → GenF (fG__law_deed n).1 d (nD d) (mD d) 0 0
  | n + 1, 0, _ => deed_step (N := 0) (M := 0) (L := 240) (K := 800) (by decide) (by decide) (fun h => (by cases h)) (fun h => (by cases h)) (fun h => (by cases h))
  | n + 3, d + 1, h => by
    have hv := deed_all (n + 1) d (by omega)
    have h0 : GenF (fG__law_deed (n + 1)).1 0 240 800 0 0 := deed_all (n + 1) 0 (by omega)
    have e : (((d + 1 : Nat) : Int) - 1) = (d : Int) := by omega
    exact deed_step (N := nD d) (M := mD d) (L := 600) (K := 2000) (by decide) (by decide) (fun _ => (choice_step (by rw [e]; exact hv)).to (by omega) (by omega)) (fun _ => (round_step (by rw [e]; exact hv)).to (by omega) (by omega)) (fun _ => (trid_step (by rw [e]; exact hv) h0).to (by omega) (by omega))
theorem deed_ok : GenF f__law_deed 2 2760 9200 0 0 := deed_all 8 2 (by decide)
structure Snd (c : Code) : Prop where
  snd : Sound c
  ex : ∃ t, explored c = some (.inl t) ∧ Least c t
theorem code_of_frag {F : List Row} {b l : Nat} {k : Int} (f : FragP (F ++ [.bare .ret l]) 0 b 0 k) (hl : F.length ≤ 149) (hb : b ≤ 100) (hn : ∀ r, r ∈ F ++ [.bare .ret l] → r.line ≤ 9999) : Snd (F ++ [.bare .ret l]) := by
  have lb : ∀ m, m < b → ∃ l', Row.label m l' ∈ F ++ [.bare .ret l] := fun m hm => by
    have := (f.lab m).mpr ⟨Nat.zero_le _, hm⟩
    obtain ⟨r, h1, h2⟩ := List.mem_map.mp this
    obtain ⟨h3, h4⟩ := List.mem_filter.mp h1
    cases r with
    | label m' l' =>
      have h2 : m' = m := h2
      subst h2
      exact ⟨l', h3⟩
    | _ => cases h4
  have ok : CodeOk (F ++ [.bare .ret l]) := by
    refine ⟨by rw [List.length_append]; exact Nat.le_add_left _ _, by rw [List.length_append]; show F.length + 1 ≤ 150; omega, fun r hr => ⟨(f.rows r hr).ok (hn r hr) fun hh => ?_, (f.rows r hr).fits⟩, fun v l' hv => (f.rows _ hv).vals v l' rfl, fun r hr hh => lb _ (f.hop r hr hh).2, f.labs⟩
    rcases hh with hh | hh
    · have := (f.hop r hr hh).2
      omega
    · have := ((f.lab r.mark).mp (List.mem_map_of_mem (List.mem_filter.mpr ⟨hr, hh⟩))).2
      omega
  obtain ⟨σ, _, h⟩ := f.go ⟨0, []⟩ (fun _ => ⟨0, []⟩) (by show (0 : Int) ≤ 0 - 0; omega) (fun x hx => by cases hx) (fun x g hx => by cases hx)
  have sq := h b σ (Nat.le_refl _) (fun _ _ => rfl)
  obtain ⟨t, ft⟩ := sq.fits ok lb ⟨l, List.getLast?_concat⟩
  obtain ⟨t', e, L⟩ := ft.sound ok.good
  exact ⟨Sound.of_least ok e L, t', e, L⟩
def tiny : List Row := [.nm .load "a" 7] ++ [.bare .ret 8]
theorem tiny_sound : Snd tiny := by
  have f : FragP tiny 0 0 0 0 := ((frag_nm (a := 0) (l := 7) (o := .load) (x := "a") (n := 0) (k := 1) (.head _) rfl rfl).append (frag_bare (l := 8) (o := .ret) (k := -1) (.inl rfl)) (m := 0) (by omega) (by omega)).to (by omega) (by omega)
  refine code_of_frag (F := [.nm .load "a" 7]) (l := 8) f (by decide) (by decide) fun r hr => ?_
  simp only [List.cons_append, List.nil_append, List.mem_cons, List.not_mem_nil, or_false] at hr
  rcases hr with rfl | rfl
  · show 7 ≤ 9999
    omega
  · show 8 ≤ 9999
    omega
structure CdI (ns : List Int) (q N : Nat) (m : D) (ρ : En) : Prop where
  ex : ∃ t F c o, ρ = [some (dL ns), some t, some m, some (rwD F), some (mkD c), o] ∧ Town ns q t ∧ FragP F 0 c 0 0 ∧ Num [] 0 N F c
theorem code_ok2 {ns : List Int} {t : D} {q many : Nat} (hT : Town ns q t) (hq : q < 500000) (hm : 0 < many ∧ many ≤ 8) : ∃ (c : Code) (t' : D), f__law_code [some (dL ns), some t, some (dN many)] = some (c.d, [none, some t', none]) ∧ Town ns (q + 90000) t' ∧ Snd c ∧ c.length ≤ 140 := by
  obtain ⟨w, t1, e1, w1, T1⟩ := draw_i (many : Int) hT (by omega) ⟨by omega, by omega⟩
  have em : (1 : Int) + (w : Int) = ((1 + w : Nat) : Int) := by omega
  obtain ⟨ρ2, l1, ⟨t2, F, c, o, rfl, T2, f2, n2⟩⟩ := for_inv (j := 1 + w) (P := fun i ρ => CdI ns (q + 1 + 9200 * i) (2760 * i) (dN many) ρ) (g := mgN 5)
    (b := (mIte (mTr (m2 (.fz) (.fz) (mOp [.br 3] (maCons (mBr 3) maNil) dLenU) (mC (.int 70)) dLt)) (mDrop (mCall f__law_deed [.fz, .br 1, .br 3, .br 4, .fz] [] (maCons (mVar 0) (maCons (mBr 1) (maCons (mBr 3) (maCons (mBr 4) (maCons (mC (.int 2)) maNil))))))) mSkip))
    (fun i ρ hi hP => by
      obtain ⟨t, F, c, o, rfl, T, f, n⟩ := hP
      have nl := n.1
      have nc := n.2.1
      have e0 : dLenU [rwD F] = some (dN F.length) := len_rw
      by_cases h70 : (F.length : Int) < 70
      · obtain ⟨t', G, e, k1, k2, k3, k4⟩ := deed_ok ns t (q + 1 + 9200 * i) F c T (by omega) (by omega) (by omega)
        refine ⟨[some (dL ns), some t, some (dN many), some (rwD F), some (mkD c), some (dN i)], [some (dL ns), some t', some (dN many), some (rwD (F ++ G)), some (mkD e), some (dN i)], rfl, ?_, ⟨t', F ++ G, e, some (dN i), rfl, k2.up (by omega), (f.append k3 (m := 0) (by omega) (by omega)).to (by omega) (by omega), (n.append (by exact k4)).to (by omega)⟩⟩
        exists e0, decide_eq_true h70, k1
      · refine ⟨[some (dL ns), some t, some (dN many), some (rwD F), some (mkD c), some (dN i)], [some (dL ns), some t, some (dN many), some (rwD F), some (mkD c), some (dN i)], rfl, ?_, ⟨t, F, c, some (dN i), rfl, T.up (by omega), f, n.to (by omega)⟩⟩
        exists e0, decide_eq_false h70) (ρ := [some (dL ns), some t1, some (dN many), some (rwD []), some (mkD 0), none]) ⟨t1, [], 0, none, rfl, T1.up (by omega), FragP.nil, Num.nil.to (by omega)⟩
  have nl := n2.1
  have nc := n2.2.1
  obtain ⟨t3, V, e, e3, T3, f3, n3⟩ := val1 ns t2 (q + 1 + 9200 * (1 + w)) F c T2 (by omega) (by omega) (by omega)
  have nl3 := n3.1
  have nc3 := n3.2.1
  have e4 := put_ret (R := F ++ V) (by rw [List.length_append]; omega)
  generalize hR : ln (F ++ V) = a at e4
  have f5 : FragP (F ++ V ++ [.bare .ret a]) 0 e 0 0 := ((f2.append f3 (m := 0) (by omega) (by omega)).append (frag_bare (l := a) (o := .ret) (k := -1) (.inl rfl)) (m := 0) (by omega) (by omega)).to (by omega) (by omega)
  have n5 := (n2.append (by exact n3)).append (Num.one (rows := [] ++ (F ++ V)) (r := .bare .ret a) hR.symm)
  have e5 : dLenU [rwD (F ++ V ++ [.bare .ret a])] = some (dN (F ++ V ++ [Row.bare .ret a]).length) := len_rw
  have e6 : dLenU [mkD e] = some (dN e) := by
    show some (PyData.int (((List.range e).map dN).length : Nat)) = _
    rw [List.length_map, List.length_range]
  generalize hL : (F ++ V ++ [Row.bare .ret a]).length = L at e5
  have l1' : mForL (dRng 0 (1 + w)) (mgN 5) ((mIte (mTr (m2 (.fz) (.fz) (mOp [.br 3] (maCons (mBr 3) maNil) dLenU) (mC (.int 70)) dLt)) (mDrop (mCall f__law_deed [.fz, .br 1, .br 3, .br 4, .fz] [] (maCons (mVar 0) (maCons (mBr 1) (maCons (mBr 3) (maCons (mBr 4) (maCons (mC (.int 2)) maNil))))))) mSkip)) [some (dL ns), some t1, some (dN many), some (.list []), some (.list []), none] = some (.nx, [some (dL ns), some t2, some (dN many), some (rwD F), some (mkD c), o]) := l1
  by_cases h1 : (L : Int) > 140
  · refine ⟨tiny, t3, ?_, T3.up (by omega), tiny_sound, by decide⟩
    unfold f__law_code m__law_code
    exists e1, em, rng_ok (show 1 + w < 1000000 by omega), l1', e3, e4, e5, e6, decide_eq_true h1
    rfl
  by_cases h2 : (e : Int) > 90
  · refine ⟨tiny, t3, ?_, T3.up (by omega), tiny_sound, by decide⟩
    unfold f__law_code m__law_code
    exists e1, em, rng_ok (show 1 + w < 1000000 by omega), l1', e3, e4, e5, e6, decide_eq_false h1, decide_eq_true h2
    rfl
  · refine ⟨F ++ V ++ [.bare .ret a], t3, ?_, T3.up (by omega), code_of_frag f5 ?_ (by omega) fun r hr => ?_, by omega⟩
    · unfold f__law_code m__law_code
      exists e1, em, rng_ok (show 1 + w < 1000000 by omega), l1', e3, e4, e5, e6, decide_eq_false h1, decide_eq_false h2
    · rw [List.length_append] at hL
      have hL : (F ++ V).length + 1 = L := hL
      omega
    · have := n5.2.2 r hr
      rw [show ([] : List Row).length = 0 from rfl, hL] at this
      omega
structure GvI (ns : List Int) (q : Nat) (r : List D) (ρ : En) : Prop where
  ex : ∃ t w o, ρ = [some (dL ns), some t, some (hD w), o] ∧ Town ns (q + 6 - 2 * r.length) t ∧ r.length ≤ 3 ∧ w.length + r.length ≤ 3 ∧ (∀ d, d ∈ r → ∃ x : Str, x ∈ smallNames ∧ d = .str x) ∧ ∀ p, p ∈ w → p.1 ∈ smallNames ∧ p.2.good
structure Shw (n L : Nat) (d : D) : Prop where
  able : d.showable = true
  nod : d.hasDict = false
  dep : d.depth ≤ n
  txt : PyData.strOk d.shown = true
  len : d.shown.length ≤ L
theorem Shw.up {n m L M : Nat} {d : D} (h : Shw n L d) (hn : n ≤ m) (hL : L ≤ M) : Shw m M d := ⟨h.able, h.nod, Nat.le_trans h.dep hn, h.txt, Nat.le_trans h.len hL⟩
theorem Shw.ok {n L : Nat} {d : D} (h : Shw n L d) (hn : n ≤ 60 := by decide) (hL : L ≤ 100000 := by decide) : showOk d = true := by
  unfold showOk
  rw [h.able, h.nod, decide_eq_true (Nat.le_trans h.dep hn), decide_eq_true (Nat.le_trans h.len hL)]
  rfl
theorem Shw.int {i : Int} (h : -BIG ≤ i ∧ i ≤ BIG) : Shw 0 20 (.int i) := by
  unfold BIG at h
  refine ⟨decide_eq_true ?_, rfl, Nat.le_refl _, strOk_ofString, ?_⟩
  · by_cases h0 : i.natAbs = 0
    · rw [h0]
      decide
    · have : i.natAbs < 2 ^ 64 := by omega
      have := (Nat.log2_lt h0).mpr this
      omega
  · show (Str.ofString (toString i)).length ≤ 20
    have e := int_text_length_le10 (k := 19) (a := i) (by decide) (by omega)
    rw [PySem.ofString_length]
    exact e
theorem Shw.bool {b : Bool} : Shw 0 20 (.bool b) := by
  refine ⟨rfl, rfl, Nat.le_refl _, ?_, ?_⟩ <;> cases b <;> decide +kernel
theorem Shw.none : Shw 0 20 .none := ⟨rfl, rfl, Nat.le_refl _, by decide +kernel, by decide +kernel⟩
theorem Shw.str {x : Str} (h : PyData.strOk (reprText x) = true ∧ (reprText x).length ≤ 20) : Shw 0 20 (.str x) := ⟨rfl, rfl, Nat.le_refl _, h.1, h.2⟩
theorem Shw.kind {x : Str} (h : x ∈ kinds) : Shw 0 20 (.str x) := by
  have : ∀ x, x ∈ kinds → PyData.strOk (reprText x) = true ∧ (reprText x).length ≤ 20 := by decide +kernel
  exact Shw.str (this x h)
theorem Shw.val {v : Val} (h : v.good) : Shw 0 20 v.d := by
  cases v with
  | non => exact .none
  | bool b => exact .bool
  | int i => exact .int h
  | str x => exact .kind h
theorem shw_all {n L : Nat} : ∀ {ds : List D}, (∀ d, d ∈ ds → Shw n L d) → PyData.showableAll ds = true ∧ PyData.hasDictAll ds = false ∧ PyData.depthAll ds ≤ n ∧ (∀ t, t ∈ PyData.shownAll ds → PyData.strOk t = true) ∧ ((PyData.shownAll ds).map (·.length)).sum ≤ ds.length * L ∧ (PyData.shownAll ds).length = ds.length
  | [], _ => ⟨rfl, rfl, Nat.zero_le _, (fun t h => by have h : t ∈ ([] : List Str) := h; cases h), Nat.zero_le _, rfl⟩
  | d :: ds, h => by
    obtain ⟨a, b, c, e, f, g⟩ := shw_all fun d m => h d (List.mem_cons_of_mem _ m)
    have z := h d List.mem_cons_self
    refine ⟨?_, ?_, ?_, fun t ht => ?_, ?_, ?_⟩
    · rw [PyData.showableAll, z.able, a]
      rfl
    · rw [PyData.hasDictAll, z.nod, b]
      rfl
    · rw [PyData.depthAll]
      exact Nat.max_le.mpr ⟨z.dep, c⟩
    · rw [PyData.shownAll] at ht
      rcases List.mem_cons.mp ht with rfl | ht
      · exact z.txt
      · exact e t ht
    · rw [PyData.shownAll, List.map_cons, List.sum_cons, List.length_cons, Nat.succ_mul]
      have := z.len
      omega
    · rw [PyData.shownAll, List.length_cons, List.length_cons, g]
theorem strOk_textFrom : ∀ {ts : List Str} {k : Nat} {acc : Str}, PyData.strOk acc = true → (∀ t, t ∈ ts → PyData.strOk t = true) → PyData.strOk (textFrom k acc ts) = true
  | [], k, acc, h, _ => h
  | t :: ts, k, acc, h, hs => by
    refine strOk_textFrom (k := k + 1) (strOk_app (strOk_app h ?_) (hs t (.head _))) fun t' m => hs t' (.tail _ m)
    exact strOk_ofString
theorem strOk_join {sep : Str} (hp : PyData.strOk sep = true) : ∀ {ts : List Str}, (∀ t, t ∈ ts → PyData.strOk t = true) → PyData.strOk (Str.join sep ts) = true
  | [], _ => by
    show PyData.strOk Str.empty = true
    decide +kernel
  | [x], h => h x (.head _)
  | x :: y :: r, h => strOk_app (strOk_app (h x (.head _)) hp) (strOk_join hp fun t m => h t (.tail _ m))
theorem Shw.list {n L : Nat} {ds : List D} (h : ∀ d, d ∈ ds → Shw n L d) : Shw (n + 1) (ds.length * (L + 2) + 3) (.list ds) := by
  obtain ⟨a, b, c, e, f, g⟩ := shw_all h
  refine ⟨by rw [PyData.showable]; exact a, by rw [PyData.hasDict]; exact b, by rw [PyData.depth]; omega, ?_, ?_⟩
  · rw [PyData.shown]
    exact strOk_app (strOk_textFrom strOk_ofString e) strOk_ofString
  · rw [PyData.shown]
    have := listText_len_le (PyData.shownAll ds)
    rw [g] at this
    rw [Nat.mul_add]
    omega
theorem Shw.tuple {n L : Nat} {ds : List D} (h : ∀ d, d ∈ ds → Shw n L d) : Shw (n + 1) (ds.length * (L + 2) + 3) (.tuple ds) := by
  obtain ⟨a, b, c, e, f, g⟩ := shw_all h
  refine ⟨by rw [PyData.showable]; exact a, by rw [PyData.hasDict]; exact b, by rw [PyData.depth]; omega, ?_, ?_⟩
  · rw [PyData.shown]
    exact strOk_app (strOk_app strOk_ofString (strOk_join strOk_ofString e)) strOk_ofString
  · rw [PyData.shown]
    have := tupleText_len_le (PyData.shownAll ds)
    rw [g] at this
    rw [Nat.mul_add]
    omega
theorem show_l {n L : Nat} {ds : List D} (h : Shw n L (.list ds)) (hn : n ≤ 60 := by decide) (hL : L ≤ 100000 := by decide) : f__law_shown [some (.list ds)] = some (.str (PyData.shown (.list ds)), [none]) := by
  have : dShow [.list ds] = some (.str (PyData.shown (.list ds))) := if_pos (h.ok hn hL)
  unfold f__law_shown m__law_shown
  exists this
theorem shown_eq {n L : Nat} {d : D} (h : Shw n L d) : dEqU [.str d.shown, .str d.shown] = some (.bool true) := by
  rw [dEq_of (Eq0.str (n := 0) h.txt) (Eq0.str (n := 0) h.txt)]
  show some (PyData.bool (decide _)) = _
  simp
theorem done_out {c : Code} {r : Row} {m m' : Mc} {k : Option Str} (h : doneM c r m = some (k, m')) : m'.trail = m.trail ∧ ∃ t, m'.out = m.out ++ t := by
  obtain ⟨at_, pile, sh, held, out, trail, last⟩ := m
  cases r with
  | pr o l =>
    match pile, h with
    | b :: a :: p, h =>
      cases h
      exact ⟨rfl, [], (List.append_nil _).symm⟩
  | push v l => cases h; exact ⟨rfl, [], (List.append_nil _).symm⟩
  | copy n l =>
    unfold doneM at h
    dsimp only at h
    split at h
    · obtain ⟨v, h1, h2⟩ := Option.map_eq_some_iff.mp h
      cases h2
      exact ⟨rfl, [], (List.append_nil _).symm⟩
    · cases h
  | swap n l =>
    unfold doneM at h
    dsimp only at h
    split at h
    · obtain ⟨x, h1, h2⟩ := Option.bind_eq_some_iff.mp h
      obtain ⟨y, h3, h4⟩ := Option.map_eq_some_iff.mp h2
      cases h4
      exact ⟨rfl, [], (List.append_nil _).symm⟩
    · cases h
  | tri mk l => cases h
  | label mk l => cases h
  | endtry l => cases h
  | bare o l =>
    cases o <;> (match pile, h with
      | a :: p, h => (cases h; first | exact ⟨rfl, [], (List.append_nil _).symm⟩ | exact ⟨rfl, [a], rfl⟩))
  | nm o n l =>
    cases o with
    | store =>
      match pile, h with
      | a :: p, h => cases h; exact ⟨rfl, [], (List.append_nil _).symm⟩
    | quick => cases h; exact ⟨rfl, [], (List.append_nil _).symm⟩
    | load =>
      unfold doneM at h
      dsimp only at h
      split at h <;> cases h
      · exact ⟨rfl, [], (List.append_nil _).symm⟩
      · exact ⟨rfl, [], (List.append_nil _).symm⟩
    | clear =>
      unfold doneM at h
      dsimp only at h
      split at h <;> cases h
      · exact ⟨rfl, [], (List.append_nil _).symm⟩
      · exact ⟨rfl, [], (List.append_nil _).symm⟩
  | jmp o mk l =>
    by_cases ho : o = .jump
    · subst ho
      obtain ⟨q, h1, h2⟩ := Option.map_eq_some_iff.mp h
      cases h2
      exact ⟨rfl, [], (List.append_nil _).symm⟩
    · have h : (match (generalizing := false) pile with
        | v :: p => ((whereL c).lookup mk).map fun q => (none, Mc.mk (if o.takes v = true then q else at_) (if (o.takes v && !o.isIf) = true then v :: p else p) sh held out trail last)
        | _ => none) = some (k, m') := by
        cases o <;> first | exact h | exact (ho rfl).elim
      match pile, h with
      | v :: p, h =>
        obtain ⟨q, h1, h2⟩ := Option.map_eq_some_iff.mp h
        cases h2
        exact ⟨rfl, [], (List.append_nil _).symm⟩
theorem fault_out {c : Code} {k : Str} {l : Nat} {m m' : Mc} (h : faultM c k l m = some m') : m'.trail = m.trail ∧ m'.out = m.out := by
  obtain ⟨at_, pile, sh, held, out, trail, last⟩ := m
  unfold faultM at h
  cases sh with
  | nil =>
    cases h
    exact ⟨rfl, rfl⟩
  | cons x g =>
    dsimp only at h
    split at h
    · obtain ⟨q, h1, h2⟩ := Option.map_eq_some_iff.mp h
      cases h2
      exact ⟨rfl, rfl⟩
    · cases h
theorem row_line {r : Row} (h : r.ok = true) : r.line ≤ 9999 := by
  cases r <;> first | exact of_decide_eq_true (Bool.and_eq_true_iff.mp h).1 | exact of_decide_eq_true h
def micro (c : Code) (m : Mc) : Option Mc := if m.last = .on then (c[m.at_]?).bind fun r => if r.isPseudo = true then (passStep c m).bind fun z => (match z with
    | .go m' => some m'
    | _ => none) else (doneM c r m.grown).bind fun z => kindM c r.line z.2 z.1 else none
def mics (c : Code) : Nat → Mc → Option Mc
  | 0, m => some m
  | n + 1, m => (micro c m).bind (mics c n)
theorem mics_add {c : Code} {b : Nat} : ∀ {a : Nat} {m : Mc}, mics c (a + b) m = (mics c a m).bind (mics c b)
  | 0, m => by rw [Nat.zero_add]; rfl
  | a + 1, m => by
    rw [Nat.succ_add]
    show (micro c m).bind (mics c (a + b)) = ((micro c m).bind (mics c a)).bind (mics c b)
    rw [Option.bind_assoc]
    congr 1
    funext x
    exact mics_add
theorem mics_one {c : Code} {m : Mc} : mics c 1 m = micro c m := by
  show (micro c m).bind (mics c 0) = _
  cases micro c m <;> rfl
theorem micro_on {c : Code} {m m' : Mc} (h : micro c m = some m') : m.last = .on := by
  unfold micro at h
  split at h
  · assumption
  · cases h
def NP (c : Code) (m : Mc) : Prop := ∃ r, c[m.at_]? = some r ∧ r.isPseudo = false
theorem pass_pseudo {c : Code} {m : Mc} {r : Row} {z : WR Mc Unit} (hr : c[m.at_]? = some r) (h : passStep c m = some z) : (∃ m', z = .go m' ∧ r.isPseudo = true ∧ m'.last = m.last ∧ m'.out = m.out ∧ m'.trail = m.trail) ∨ (z = .stop m ∧ r.isPseudo = false) := by
  unfold passStep at h
  rw [hr] at h
  cases r with
  | tri mk l =>
    have h : (if m.sh.length < 1000000 then some (WR.go { m with sh := (mk, (m.pile.length : Int)) :: m.sh, at_ := m.at_ + 1 }) else none) = some z := h
    split at h
    · cases h
      exact .inl ⟨_, rfl, rfl, rfl, rfl, rfl⟩
    · cases h
  | endtry l =>
    have h : (match m.sh with
      | [] => none
      | _ :: g => some (WR.go { m with sh := g, at_ := m.at_ + 1 })) = some z := h
    split at h
    · cases h
    · cases h
      exact .inl ⟨_, rfl, rfl, rfl, rfl, rfl⟩
  | label mk l =>
    cases h
    exact .inl ⟨_, rfl, rfl, rfl, rfl, rfl⟩
  | _ =>
    cases h
    exact .inr ⟨rfl, rfl⟩
theorem micro_out {c : Code} {m m' : Mc} (h : micro c m = some m') : (∃ t, m'.out = m.out ++ t) ∧ (m'.trail = m.trail ∨ m'.trail = m.trail ++ [m.at_]) ∧ (NP c m → m'.trail = m.trail ++ [m.at_]) := by
  have hl := micro_on h
  unfold micro at h
  rw [if_pos hl] at h
  obtain ⟨r, h1, h2⟩ := Option.bind_eq_some_iff.mp h
  by_cases hp : r.isPseudo = true
  · rw [if_pos hp] at h2
    obtain ⟨z, h3, h4⟩ := Option.bind_eq_some_iff.mp h2
    rcases pass_pseudo h1 h3 with ⟨m2, rfl, e2, e3, e4, e5⟩ | ⟨rfl, e2⟩
    · cases h4
      refine ⟨⟨[], by rw [e4, List.append_nil]⟩, .inl e5, fun hn => ?_⟩
      obtain ⟨r', q1, q2⟩ := hn
      rw [h1] at q1
      cases q1
      rw [hp] at q2
      cases q2
    · cases h4
  · rw [if_neg hp] at h2
    obtain ⟨⟨k, m2⟩, h3, h4⟩ := Option.bind_eq_some_iff.mp h2
    obtain ⟨a1, t, a2⟩ := done_out h3
    have b : m'.trail = m2.trail ∧ m'.out = m2.out := by
      cases k with
      | none =>
        cases h4
        exact ⟨rfl, rfl⟩
      | some k => exact fault_out h4
    have e : m'.trail = m.trail ++ [m.at_] := b.1.trans a1
    exact ⟨⟨t, b.2.trans a2⟩, .inr e, fun _ => e⟩
theorem mics_out {c : Code} : ∀ {n : Nat} {m m' : Mc}, mics c n m = some m' → (∃ t, m'.out = m.out ++ t) ∧ m.trail.length ≤ m'.trail.length
  | 0, m, m', h => by
    cases h
    exact ⟨⟨[], (List.append_nil _).symm⟩, Nat.le_refl _⟩
  | n + 1, m, m', h => by
    obtain ⟨m2, h1, h2⟩ := Option.bind_eq_some_iff.mp h
    obtain ⟨⟨t, a⟩, b, _⟩ := micro_out h1
    obtain ⟨⟨t2, a2⟩, b2⟩ := mics_out h2
    refine ⟨⟨t ++ t2, by rw [a2, a, List.append_assoc]⟩, ?_⟩
    rcases b with b | b
    · rw [b] at b2
      exact b2
    · rw [b, List.length_append] at b2
      omega
def Agr (m' m : Mc) : Prop := (m.last = .on → ∃ t, m'.out = m.out ++ t) ∧ (m.last ≠ .on → m'.last = m.last ∧ m'.out = m.out ∧ m'.trail.length ≤ m.trail.length)
def Tells (c c' : Code) : Prop := ∀ (w : List (Str × Val)) (s : Nat) (m m' : Mc), runM c w s = some m → runM c' w s = some m' → Agr m' m
structure Sim (c c' : Code) (R : Mc → Mc → Prop) : Prop where
  out : ∀ m m', R m m' → m'.out = m.out ∧ m'.last = m.last
  go : ∀ m m' mx, R m m' → micro c m = some mx → ∃ a m1 m2 b m2', mics c a m = some m1 ∧ m1.out = m.out ∧ micro c m1 = some m2 ∧ mics c' b m' = some m2' ∧ R m2 m2' ∧ m2'.trail.length + m.trail.length ≤ m2.trail.length + m'.trail.length
theorem Sim.run {c c' : Code} {R : Mc → Mc → Prop} (S : Sim c c' R) : ∀ (n : Nat) {k : Nat} {m m' mf : Mc}, k ≤ n → R m m' → mics c k m = some mf → ∃ k' mf', mics c' k' m' = some mf' ∧ mf'.out = mf.out ∧ (mf.last ≠ .on → mf'.last = mf.last) ∧ mf'.trail.length + m.trail.length ≤ mf.trail.length + m'.trail.length := by
  intro n
  induction n with
  | zero =>
    intro k m m' mf hk hR h
    cases k with
    | zero =>
      cases h
      exact ⟨0, m', rfl, (S.out m m' hR).1, fun _ => (S.out m m' hR).2, by omega⟩
    | succ k => omega
  | succ n ih =>
    intro k m m' mf hk hR h
    cases k with
    | zero =>
      cases h
      exact ⟨0, m', rfl, (S.out m m' hR).1, fun _ => (S.out m m' hR).2, by omega⟩
    | succ k =>
      obtain ⟨mx, h1, h2⟩ := Option.bind_eq_some_iff.mp h
      obtain ⟨a, m1, m2, b, m2', g1, g2, g3, g4, g5, g6⟩ := S.go m m' mx hR h1
      by_cases ha : a ≤ k
      · have e : mics c (k - a) m2 = some mf := by
          have h0 : mics c (k + 1) m = some mf := h
          rw [show k + 1 = a + (1 + (k - a)) by omega, mics_add, g1] at h0
          have h0 : mics c (1 + (k - a)) m1 = some mf := h0
          rw [mics_add, mics_one, g3] at h0
          exact h0
        obtain ⟨k', mf', q1, q2, q3, q4⟩ := ih (by omega) g5 e
        refine ⟨b + k', mf', ?_, q2, q3, by omega⟩
        rw [mics_add, g4]
        exact q1
      · have h0 : mics c (k + 1) m = some mf := h
        rw [show a = (k + 1) + (a - (k + 1)) by omega, mics_add, h0] at g1
        have g1 : mics c (a - (k + 1)) mf = some m1 := g1
        obtain ⟨⟨t, o1⟩, o2⟩ := mics_out h0
        obtain ⟨⟨t2, o3⟩, o4⟩ := mics_out g1
        have eo : mf.out = m.out := by
          rw [g2, o1] at o3
          have : m.out.length = (m.out ++ t ++ t2).length := congrArg List.length o3
          rw [List.length_append, List.length_append] at this
          have : t = [] := List.length_eq_zero_iff.mp (by omega)
          rw [o1, this, List.append_nil]
        have el : mf.last = .on := by
          cases hz : a - (k + 1) with
          | zero =>
            rw [hz] at g1
            cases g1
            exact micro_on g3
          | succ z =>
            rw [hz] at g1
            obtain ⟨y, y1, _⟩ := Option.bind_eq_some_iff.mp g1
            exact micro_on y1
        exact ⟨0, m', rfl, by rw [eo]; exact (S.out m m' hR).1, fun z => (z el).elim, by omega⟩
theorem Agr.trans {m1 m2 m3 : Mc} (h : Agr m2 m1) (k : Agr m3 m2) : Agr m3 m1 := by
  constructor
  · intro ho
    obtain ⟨t, e⟩ := h.1 ho
    by_cases h2 : m2.last = .on
    · obtain ⟨t2, e2⟩ := k.1 h2
      exact ⟨t ++ t2, by rw [e2, e, List.append_assoc]⟩
    · exact ⟨t, by rw [(k.2 h2).2.1, e]⟩
  · intro ho
    obtain ⟨a, b, d⟩ := h.2 ho
    obtain ⟨a2, b2, d2⟩ := k.2 (by rw [a]; exact ho)
    exact ⟨a2.trans a, b2.trans b, Nat.le_trans d2 d⟩
theorem Agr.refl {m : Mc} : Agr m m := ⟨fun _ => ⟨[], (List.append_nil _).symm⟩, fun _ => ⟨rfl, rfl, Nat.le_refl _⟩⟩
theorem Tells.refl {c : Code} : Tells c c := fun w s m m' h h' => by
  rw [h] at h'
  cases h'
  exact Agr.refl
theorem Tells.trans {c c' c'' : Code} (S : Sound c') (h : Tells c c') (k : Tells c' c'') : Tells c c'' := fun w s m m'' e e'' => by
  obtain ⟨m', e', _⟩ := run_total S w s
  exact (h w s m m' e e').trans (k w s m' m'' e' e'')
structure Like (A : Nat → Nat → Prop) (L : Nat → Prop) (m m' : Mc) : Prop where
  at_ : A m.at_ m'.at_
  pile : m'.pile = m.pile
  sh : m'.sh = m.sh
  held : m'.held = m.held
  out : m'.out = m.out
  last : m'.last = m.last
  marks : ∀ x, x ∈ m.sh → L x.1
theorem Like.of {A : Nat → Nat → Prop} {L : Nat → Prop} {a a' : Nat} {pile : List Val} {sh : List (Nat × Int)} {held : List (Str × Val)} {out : List Val} {tr tr' : List Nat} {last : End} (h : A a a') (hm : ∀ x, x ∈ sh → L x.1) : Like A L ⟨a, pile, sh, held, out, tr, last⟩ ⟨a', pile, sh, held, out, tr', last⟩ := ⟨h, rfl, rfl, rfl, rfl, rfl, hm⟩
theorem Like.grown {A : Nat → Nat → Prop} {L : Nat → Prop} {m m' : Mc} (h : Like A L m m') (ha : A (m.at_ + 1) (m'.at_ + 1)) : Like A L m.grown m'.grown := ⟨ha, h.pile, h.sh, h.held, h.out, h.last, h.marks⟩
section
variable {B : Nat} {σ : Nat → St} {s : St}
end
section
variable {rest : MS} {mo ma : M} {s t t1 t2 mk x4 x5 : D} {R R' : List Row} {o : Str} {a : D} {y5 : Option D}
theorem hp2 (h1 : mo [some s, some t, some (rwD R), some mk, some x4, y5] = some (.str o, [some s, some t1, some (rwD R), some mk, some x4, y5])) (h3 : f__law_put [some (rwD R), some (.str o), some .none] = some (.none, [some (rwD R'), none, none])) :
    mSeq (mDrop (mCall f__law_put [.br 2, .fz] [.none] (maCons (mBr 2) (maCons mo maNil)))) rest [some s, some t, some (rwD R), some mk, some x4, y5] = rest [some s, some t1, some (rwD R'), some mk, some x4, y5] := by
  exists h1, h3
end
def GenS (x : MS) (N M : Nat) : Prop := ∀ (ns : List Int) (t : D) (q : Nat) (rows : List Row) (b : Nat) (o4 o5 o6 : Option D), Town ns q t → q + M < 1000000 → rows.length + N < 1000000 → b + N < 1000000 →
  ∃ (t' : D) (F : List Row) (c : Nat) (o6' : Option D), x [some (dL ns), some t, some (rwD rows), some (mkD b), o4, o5, o6] = some (.nx, [some (dL ns), some t', some (rwD (rows ++ F)), some (mkD c), o4, o5, o6']) ∧ Town ns (q + M) t' ∧ FragP F b c 0 0 ∧ Num rows b N F c
theorem GenS.to {x : MS} {N M N' M' : Nat} (h : GenS x N M) (hN : N ≤ N') (hM : M ≤ M') : GenS x N' M' := by
  intro ns t q rows b o4 o5 o6 hT hq hr hb
  obtain ⟨t', F, c, o6', k1, k2, k3, k4⟩ := h ns t q rows b o4 o5 o6 hT (by omega) (by omega) (by omega)
  exact ⟨t', F, c, o6', k1, k2.up (by omega), k3, k4.to hN⟩
structure CnI (ns : List Int) (rows : List Row) (b q N : Nat) (k : Int) (o4 o5 : Option D) (ρ : En) : Prop where
  ex : ∃ t F o, ρ = [some (dL ns), some t, some (rwD (rows ++ F)), some (mkD b), o4, o5, o] ∧ Town ns q t ∧ FragP F b b 0 k ∧ Num rows b N F b
structure DnI (ns : List Int) (q N : Nat) (ρ : En) : Prop where
  ex : ∃ t F c o4 o5 o6, ρ = [some (dL ns), some t, some (rwD F), some (mkD c), o4, o5, o6] ∧ Town ns q t ∧ FragP F 0 c 0 0 ∧ Num [] 0 N F c
theorem town_eq {ns : List Int} (hn : ns.length ≤ 63) : ∃ t, f__law_town [some (dL ns)] = some (t, [none]) ∧ Town ns 0 t := by
  obtain ⟨d, o, e, rfl, h⟩ := town_ok hn
  exact ⟨d, e, h⟩
structure TlI (ns : List Int) (c c' : Code) (q : Nat) (ρ : En) : Prop where
  ex : ∃ t o4 o5 o6, ρ = [some (dL ns), some t, some c.d, some c'.d, o4, o5, o6] ∧ Town ns q t
theorem repr_small {c : Nat} (h : c ∈ ("abcdefghijklmnopqrstuvwxyz" : Str).cps.toList) : Builtin.Str.reprChar 39 c = [c] ∧ Builtin.Str.reprChar 34 c = [c] ∧ c < 1114112 := by
  have : ∀ c, c ∈ ("abcdefghijklmnopqrstuvwxyz" : Str).cps.toList → Builtin.Str.reprChar 39 c = [c] ∧ Builtin.Str.reprChar 34 c = [c] ∧ c < 1114112 := by decide +kernel
  exact this c h
theorem fold_small {q : Nat} : ∀ {l : List Nat} {acc : Array Nat}, (∀ c, c ∈ l → Builtin.Str.reprChar q c = [c]) → (l.foldl (fun out c => out ++ (Builtin.Str.reprChar q c).toArray) acc).toList = acc.toList ++ l
  | [], acc, _ => (List.append_nil _).symm
  | c :: l, acc, h => by
    rw [List.foldl_cons, fold_small fun x hx => h x (List.mem_cons_of_mem _ hx), h c List.mem_cons_self, Array.toList_append, List.append_assoc]
    rfl
theorem name_shown {x : Str} (h : nameOk x = true) : PyData.strOk (reprText x) = true ∧ (reprText x).length ≤ 20 := by
  unfold nameOk at h
  simp only [Bool.and_eq_true, decide_eq_true_eq] at h
  obtain ⟨⟨h1, h2⟩, h3⟩ := h
  have hs : ∀ c, c ∈ x.cps.toList → c ∈ ("abcdefghijklmnopqrstuvwxyz" : Str).cps.toList := fun c hc => of_decide_eq_true (List.all_eq_true.mp h3 c hc)
  have hq : reprQuote x = 34 ∨ reprQuote x = 39 := by
    unfold reprQuote
    split
    · exact .inl rfl
    · exact .inr rfl
  have e : (reprText x).cps.toList = [reprQuote x] ++ x.cps.toList ++ [reprQuote x] := by
    unfold reprText
    show ((x.cps.foldl (fun out c => out ++ (Builtin.Str.reprChar (reprQuote x) c).toArray) #[reprQuote x]).push (reprQuote x)).toList = _
    rw [Array.toList_push, ← Array.foldl_toList, fold_small fun c hc => ?_]
    rcases hq with hq | hq
    · rw [hq]
      exact (repr_small (hs c hc)).2.1
    · rw [hq]
      exact (repr_small (hs c hc)).1
  refine ⟨?_, ?_⟩
  · unfold PyData.strOk
    rw [← Array.all_toList, List.all_eq_true]
    intro c hc
    rw [e] at hc
    simp only [List.mem_append, List.mem_singleton] at hc
    refine decide_eq_true ?_
    rcases hc with (rfl | hc) | rfl
    · rcases hq with hq | hq <;> rw [hq] <;> decide
    · exact (repr_small (hs c hc)).2.2
    · rcases hq with hq | hq <;> rw [hq] <;> decide
  · show (reprText x).cps.size ≤ 20
    rw [← Array.length_toList, e, List.length_append, List.length_append, List.length_singleton, Array.length_toList]
    omega
def opWords : List Str := (["push", "load", "quick", "store", "clear", "copy", "swap", "jump", "iftrue"] : List Str) ++ ((["iffalse", "ortrue", "orfalse", "try", "label", "add", "sub", "mul", "div", "rest", "less", "same"] : List Str) ++ (["neg", "not", "drop", "tell", "return", "raise", "endtry"] : List Str))
theorem op_word (r : Row) : r.op ∈ opWords := by
  have : ∀ z, z ∈ opWords ↔ z ∈ opWords := fun _ => Iff.rfl
  cases r with
  | nm o n l => cases o <;> exact of_decide_eq_true (by kernel_rfl)
  | jmp o m l => cases o <;> exact of_decide_eq_true (by kernel_rfl)
  | pr o l => cases o <;> exact of_decide_eq_true (by kernel_rfl)
  | bare o l => cases o <;> exact of_decide_eq_true (by kernel_rfl)
  | _ => exact of_decide_eq_true (by kernel_rfl)
theorem shw_row {r : Row} (h : r.ok = true) (hg : ∀ v l, r = .push v l → v.good) : Shw 1 69 r.d := by
  have hl := row_line h
  rw [Row.d_eq]
  refine (Shw.tuple (n := 0) (L := 20) (ds := [.str r.op, r.arg, dN r.line]) fun d m => ?_).up (by decide) (by show 3 * 22 + 3 ≤ 69; omega)
  have sn : ∀ k : Nat, k ≤ 9999 → Shw 0 20 (dN k) := fun k hk => Shw.int (by unfold BIG; omega)
  simp only [List.mem_cons, List.not_mem_nil, or_false] at m
  rcases m with rfl | rfl | rfl
  · have ops : ∀ z, z ∈ opWords → PyData.strOk (reprText z) = true ∧ (reprText z).length ≤ 20 := by decide +kernel
    exact Shw.str (ops _ (op_word r))
  · cases r with
    | push v l => exact Shw.val (hg v l rfl)
    | nm o n l =>
      have h : (decide (l ≤ 9999) && nameOk n) = true := h
      simp only [Bool.and_eq_true] at h
      exact Shw.str (name_shown h.2)
    | copy n l =>
      have h : (decide (l ≤ 9999) && (decide (1 ≤ n) && decide (n ≤ 9))) = true := h
      simp only [Bool.and_eq_true, decide_eq_true_eq] at h
      exact sn n (by omega)
    | swap n l =>
      have h : (decide (l ≤ 9999) && (decide (2 ≤ n) && decide (n ≤ 9))) = true := h
      simp only [Bool.and_eq_true, decide_eq_true_eq] at h
      exact sn n (by omega)
    | jmp o m l =>
      have h : (decide (l ≤ 9999) && decide (m ≤ 99)) = true := h
      simp only [Bool.and_eq_true, decide_eq_true_eq] at h
      exact sn m (by omega)
    | tri m l =>
      have h : (decide (l ≤ 9999) && decide (m ≤ 99)) = true := h
      simp only [Bool.and_eq_true, decide_eq_true_eq] at h
      exact sn m (by omega)
    | label m l =>
      have h : (decide (l ≤ 9999) && decide (m ≤ 99)) = true := h
      simp only [Bool.and_eq_true, decide_eq_true_eq] at h
      exact sn m (by omega)
    | _ => exact Shw.none
  · exact sn _ hl
theorem shw_code {c : Code} (h : CodeOk c) : Shw 2 10653 c.d := by
  refine (Shw.list (n := 1) (L := 69) fun d hd => ?_).up (by decide) ?_
  · obtain ⟨r, h1, rfl⟩ := List.mem_map.mp hd
    exact shw_row (h.rows r h1).1 fun v l e => h.vals v l (e ▸ h1)
  · have := h.few
    rw [List.length_map]
    omega
def mkS (l : List Nat) : Str := ⟨l.toArray⟩
theorem mkS_tl (x : Str) : mkS (TL.tl x) = x := TL.mk_tl x
theorem mkS_inj {a b : List Nat} (h : mkS a = mkS b) : a = b := congrArg TL.tl h
theorem len_mkS (l : List Nat) : (mkS l).length = l.length := by rw [TL.len_tl]; rfl
def Low (l : List Nat) : Prop := ∀ c, c ∈ l → c < 128
theorem strOk_mk {l : List Nat} (h : Low l) : PyData.strOk (mkS l) = true := by
  unfold PyData.strOk
  rw [← Array.all_toList, List.all_eq_true]
  intro c hc
  have := h c hc
  exact decide_eq_true (by omega)
theorem eqv_T {a b : Str} : PyData.eqv (.str a) (.str b) = decide (a = b) := by
  rw [PyData.eqv]
  by_cases h : a = b
  · subst h
    rw [decide_eq_true rfl]
    simp
  · rw [decide_eq_false h]
    simpa using h
theorem eq_txt {a b : Str} (ha : PyData.strOk a = true) (hb : PyData.strOk b = true) : dEqU [.str a, .str b] = some (.bool (decide (a = b))) := by
  rw [dEq_of (n := 0) (m := 0) (Eq0.str ha) (Eq0.str hb), eqv_T]
theorem ne_txt0 {a b : Str} (ha : PyData.strOk a = true) (hb : PyData.strOk b = true) : dNeU [.str a, .str b] = some (.bool (!decide (a = b))) := by
  rw [dNe_of (n := 0) (m := 0) (Eq0.str ha) (Eq0.str hb), eqv_T]
theorem dec_mk {a b : List Nat} : decide (mkS a = mkS b) = decide (a = b) := decide_eq_decide.mpr ⟨mkS_inj, fun h => by rw [h]⟩
theorem eq_mk {a b : List Nat} (ha : Low a) (hb : Low b) : dEqU [.str (mkS a), .str (mkS b)] = some (.bool (decide (a = b))) := by
  rw [eq_txt (strOk_mk ha) (strOk_mk hb), dec_mk]
theorem ne_mk {a b : List Nat} (ha : Low a) (hb : Low b) : dNeU [.str (mkS a), .str (mkS b)] = some (.bool (!decide (a = b))) := by
  rw [ne_txt0 (strOk_mk ha) (strOk_mk hb), dec_mk]
theorem ix_mk {l : List Nat} {i : Int} {c : Nat} (hl : l.length ≤ 100000) (h : atI l i = some c) : dIxU [.str (mkS l), .int i] = some (.str (mkS [c])) := by
  refine orD_l ?_
  show (if (mkS l).length ≤ 100000 then (atI l i).map fun c => PyData.str ⟨#[c]⟩ else none) = _
  rw [len_mkS, if_pos hl, h]
  rfl
theorem sl_mk {l : List Nat} {lo hi : Option Int} (hl : l.length ≤ 100000) : dSlU (.str (mkS l)) lo hi = some (.str (mkS ((l.drop (HT.sIx l.length 0 lo)).take (HT.sIx l.length l.length hi - HT.sIx l.length 0 lo)))) := by
  show (if (mkS l).length ≤ 100000 then some (PyData.str (cutS (mkS l) lo hi)) else none) = _
  rw [if_pos (by rw [len_mkS]; exact hl)]
  unfold cutS
  rw [len_mkS]
  rfl
theorem sl_first {c : Nat} {l : List Nat} (hl : l.length < 100000) : dSlU (.str (mkS (c :: l))) none (some 1) = some (.str (mkS [c])) := by
  rw [sl_mk (by rw [List.length_cons]; omega)]
  have e : HT.sIx (c :: l).length (c :: l).length (some 1) = 1 := by
    rw [show (some (1 : Int)) = some ((1 : Nat) : Int) from rfl, HT.sIx_nat, List.length_cons]
    omega
  rw [e]
  rfl
theorem sl_rest {c : Nat} {l : List Nat} (hl : l.length < 100000) : dSlU (.str (mkS (c :: l))) (some 1) none = some (.str (mkS l)) := by
  rw [sl_mk (by rw [List.length_cons]; omega)]
  congr 3
  have e : HT.sIx (c :: l).length 0 (some 1) = 1 := by
    rw [show (some (1 : Int)) = some ((1 : Nat) : Int) from rfl, HT.sIx_nat, List.length_cons]
    omega
  rw [e, HT.sIx_none]
  show (l.drop 0).take (l.length + 1 - 1) = l
  rw [List.drop_zero, Nat.add_sub_cancel, List.take_length]
theorem sIx_m1 {n d : Nat} (h : 0 < n) : HT.sIx n d (some (-1)) = n - 1 := by
  show (if (-1 : Int) < 0 then ((-1 : Int) + (n : Int)).toNat else min (-1 : Int).toNat n) = n - 1
  rw [if_pos (by decide)]
  omega
theorem sl_last {c : Nat} {l : List Nat} (hl : l.length < 100000) : dSlU (.str (mkS (l ++ [c]))) (some (-1)) none = some (.str (mkS [c])) := by
  have hn : (l ++ [c]).length = l.length + 1 := by rw [List.length_append]; rfl
  rw [sl_mk (by omega)]
  congr 3
  rw [hn, sIx_m1 (by omega), HT.sIx_none, Nat.add_sub_cancel, List.drop_left, Nat.add_sub_cancel_left]
  rfl
theorem sl_init {c : Nat} {l : List Nat} (hl : l.length < 100000) : dSlU (.str (mkS (l ++ [c]))) none (some (-1)) = some (.str (mkS l)) := by
  have hn : (l ++ [c]).length = l.length + 1 := by rw [List.length_append]; rfl
  rw [sl_mk (by omega)]
  congr 3
  rw [hn, sIx_m1 (by omega), HT.sIx_none, Nat.add_sub_cancel, List.drop_zero, Nat.sub_zero, List.take_left]
theorem sl_mid {b c : Nat} {l : List Nat} (hl : l.length < 99999) : dSlU (.str (mkS (b :: (l ++ [c])))) (some 1) (some (-1)) = some (.str (mkS l)) := by
  have hn : (b :: (l ++ [c])).length = l.length + 2 := by rw [List.length_cons, List.length_append]; rfl
  rw [sl_mk (by omega)]
  congr 3
  have e : HT.sIx (l.length + 2) 0 (some 1) = 1 := by
    rw [show (some (1 : Int)) = some ((1 : Nat) : Int) from rfl, HT.sIx_nat]
    omega
  rw [hn, e, sIx_m1 (by omega), show l.length + 2 - 1 - 1 = l.length by omega]
  show ((l ++ [c]).drop 0).take l.length = l
  rw [List.drop_zero, List.take_left]
theorem at_0 {c : Nat} {l : List Nat} : atI (c :: l) 0 = some c := by
  have e : ixN (c :: l).length 0 = some 0 := by
    unfold ixN
    rw [if_pos (by decide), if_pos (by rw [List.length_cons]; omega)]
    rfl
  unfold atI
  rw [e]
  rfl
theorem at_m1 {c : Nat} {l : List Nat} : atI (l ++ [c]) (-1) = some c := by
  have hn : (l ++ [c]).length = l.length + 1 := by rw [List.length_append]; rfl
  have e : ixN (l ++ [c]).length (-1) = some l.length := by
    unfold ixN
    rw [if_neg (by decide), hn, if_pos (by omega)]
    congr 1
    omega
  unfold atI
  rw [e]
  show (l ++ [c])[l.length]? = some c
  rw [List.getElem?_append_right (Nat.le_refl _), Nat.sub_self]
  rfl
theorem len_mk {l : List Nat} (hl : l.length ≤ 100000) : dLenU [.str (mkS l)] = some (.int l.length) := by
  have := dLenU_s (x := mkS l) (by rw [show (mkS l).cps.size = (mkS l).length from rfl, len_mkS]; exact hl)
  rw [this, show (mkS l).cps.size = (mkS l).length from rfl, len_mkS]
theorem app_mk {a b : List Nat} : mkS a ++ mkS b = mkS (a ++ b) := TL.ext_tl (by rw [TL.tl_append]; rfl)
theorem add_mk {a b : List Nat} (h : a.length + b.length ≤ 100000) : dAddU [.str (mkS a), .str (mkS b)] = some (.str (mkS (a ++ b))) := by
  show (if (mkS a).length + (mkS b).length ≤ 100000 then some (PyData.str (mkS a ++ mkS b)) else none) = _
  rw [len_mkS, len_mkS, if_pos h, app_mk]
def numI (i : Int) : List Nat := if i < 0 then 45 :: TL.numL i.natAbs else TL.numL i.natAbs
theorem wordI (i : Int) : Str.ofString (toString i) = mkS (numI i) := by
  refine TL.ext_tl ?_
  unfold numI
  show _ = (if i < 0 then 45 :: TL.numL i.natAbs else TL.numL i.natAbs)
  cases i with
  | ofNat n =>
    rw [if_neg (by show ¬ ((n : Int) < 0); omega)]
    exact TL.tl_num n
  | negSucc n =>
    rw [if_pos (by omega)]
    show (Str.ofString (toString (Int.negSucc n))).cps.toList = _
    rw [PyProof.Rows.signs_ofString]
    show ("-" ++ Nat.repr (n + 1)).toList.map Char.toNat = _
    rw [String.toList_append, Nat.toList_repr]
    rfl
theorem numL_low {n : Nat} : Low (TL.numL n) := fun c h => by
  have := TL.numL_digits n c h
  omega
theorem numI_low {i : Int} : Low (numI i) := by
  unfold numI
  split
  · intro c h
    rcases List.mem_cons.mp h with rfl | h
    · decide
    · exact numL_low c h
  · exact numL_low
theorem numL_head {n : Nat} : ∃ c l, TL.numL n = c :: l ∧ 48 ≤ c ∧ c ≤ 57 ∧ (c = 48 → n = 0) := by
  induction n using Nat.strongRecOn with
  | ind n ih =>
    by_cases h : n < 10
    · exact ⟨48 + n, [], TL.numL_lt h, by omega, by omega, by omega⟩
    · obtain ⟨c, l, e, h1, h2, h3⟩ := ih (n / 10) (by omega)
      exact ⟨c, l ++ [48 + n % 10], by rw [TL.numL_step (by omega), e]; rfl, h1, h2, fun z => by
        have := h3 z
        omega⟩
theorem numL_len10 {n : Nat} (h : n ≤ 1000000000) : (TL.numL n).length ≤ 10 := TL.numL_len (by decide) (by omega)
theorem numI_len {i : Int} (h : -1000000000 ≤ i ∧ i ≤ 1000000000) : (numI i).length ≤ 11 := by
  have := numL_len10 (n := i.natAbs) (by omega)
  unfold numI
  split
  · rw [List.length_cons]
    omega
  · omega
theorem numI_ne {i : Int} : numI i ≠ [] := by
  unfold numI
  split
  · intro h
    cases h
  · exact TL.numL_ne _
theorem figs (n : Nat) : (TL.numL n).all (fun c => decide (c ∈ ("0123456789" : Str).cps.toList)) = true := by
  rw [List.all_eq_true]
  intro c hc
  have h := TL.numL_digits n c hc
  have : ∀ c, c < 58 → 48 ≤ c → decide (c ∈ ("0123456789" : Str).cps.toList) = true := by decide +kernel
  exact this c (by omega) (by omega)
theorem int_back {i : Int} (h : -1000000000 ≤ i ∧ i ≤ 1000000000) : dIntU [.str (mkS (numI i))] = some (.int i) := by
  have hl := numI_len h
  have e : intText? (mkS (numI i)) = some i := by
    by_cases h0 : i < 0
    · have e1 : numI i = 45 :: TL.numL i.natAbs := if_pos h0
      have := intText_neg (x := mkS (numI i)) (cs := TL.numL i.natAbs) e1 (TL.numL_digits _) (TL.numL_ne _) (by rw [len_mkS]; omega)
      rw [this, TL.numL_val]
      congr 1
      omega
    · have e1 : numI i = TL.numL i.natAbs := if_neg h0
      have := intText_digits (x := mkS (numI i)) (by show NumText.AllDigits (numI i); rw [e1]; exact TL.numL_digits _) (by show numI i ≠ []; exact numI_ne) (by rw [len_mkS]; omega)
      rw [this]
      show some ((NumText.digitsVal (numI i) : Nat) : Int) = _
      rw [e1, TL.numL_val]
      congr 1
      omega
  show (intText? (mkS (numI i))).bind _ = _
  rw [e]
  show (if (mkS (numI i)).length ≤ 640 then _ else _) = _
  rw [len_mkS, if_pos (by omega)]
theorem number_in_ok {i : Int} {d : D} (h : -1000000000 ≤ i ∧ i ≤ 1000000000) : f_number_in [some (.str (mkS (numI i))), some d] = some (.int i, [none, none]) := by
  obtain ⟨c, l, e, c1, c2, c3⟩ := numL_head (n := i.natAbs)
  have ll := numL_len10 (n := i.natAbs) (by omega)
  have l1 : l.length ≤ 9 := by
    rw [e, List.length_cons] at ll
    omega
  have hlow : Low (c :: l) := by
    rw [← e]
    exact numL_low
  have mn : ("-" : Str) = mkS [45] := by decide +kernel
  have nul : ("" : Str) = mkS [] := by decide +kernel
  have zer : ("0" : Str) = mkS [48] := by decide +kernel
  have L45 : Low [45] := by unfold Low; decide
  have L48 : Low [48] := by unfold Low; decide
  have L0 : Low [] := by unfold Low; decide
  have Lc : Low [c] := fun x hx => hlow x (by simp at hx; rw [hx]; exact .head _)
  have back := int_back h
  have fg := figs i.natAbs
  rw [e] at fg
  have all : ∀ (w : D), ((mLcL (signs (mkS (c :: l))) (mgN 3) mYes (m2 (.fz) (.fz) (mVar 3) (mC (.str "0123456789")) dInU) [3] [] [some w, some d, some (.str (mkS (c :: l))), none]).bind fun q => some (PyData.list q.1, restE [some w, some d, some (.str (mkS (c :: l))), none] [3] q.2)) = some (.list ((c :: l).map fun c => PyData.bool (decide (c ∈ ("0123456789" : Str).cps.toList))), [some w, some d, some (.str (mkS (c :: l))), none]) := fun w => by
    unfold signs
    exact lcM_eq (F := fun c => PyData.bool (decide (c ∈ ("0123456789" : Str).cps.toList))) (by show (c :: l).length ≤ _; rw [List.length_cons]; omega) fun k _ => ⟨_, rfl, [some w, some d, some (.str (mkS (c :: l))), some (.str ⟨#[k]⟩)], rfl, rfl⟩
  have f1 : dEqU [.str (mkS (c :: l)), .str (mkS [])] = some (.bool false) := by
    rw [eq_mk hlow L0]
    rfl
  have f2 : dLenU [.str (mkS (c :: l))] = some (.int ((l.length : Int) + 1)) := len_mk (by rw [List.length_cons]; omega)
  have f3 : dGt [.int ((l.length : Int) + 1), .int 10] = some (.bool false) := congrArg (fun b => some (PyData.bool b)) (decide_eq_false (by omega))
  have f4 : dIxU [.str (mkS (c :: l)), .int 0] = some (.str (mkS [c])) := ix_mk (by rw [List.length_cons]; omega) at_0
  have f5 : dEqU [.str (mkS [c]), .str (mkS [48])] = some (.bool (decide (c = 48))) := by
    rw [eq_mk Lc L48]
    congr 2
    exact decide_eq_decide.mpr ⟨fun z => (List.cons.inj z).1, fun z => by rw [z]⟩
  have f6 : dAll [.list ((c :: l).map fun c => PyData.bool (decide (c ∈ ("0123456789" : Str).cps.toList)))] = some (.bool true) := by
    rw [dAll_f, fg]
  simp only [List.map_cons] at f6
  by_cases h0 : i < 0
  · have en : numI i = 45 :: c :: l := by
      unfold numI
      rw [if_pos h0, e]
    rw [en] at back ⊢
    have g1 : dSlU (.str (mkS (45 :: c :: l))) none (some 1) = some (.str (mkS [45])) := sl_first (by rw [List.length_cons]; omega)
    have g2 : dSlU (.str (mkS (45 :: c :: l))) (some 1) none = some (.str (mkS (c :: l))) := sl_rest (by rw [List.length_cons]; omega)
    have g3 : dEqU [.str (mkS [45]), .str (mkS [45])] = some (.bool true) := by
      rw [eq_mk L45 L45]
      rfl
    have g4 : decide (c = 48) = false := decide_eq_false fun z => by
      have := c3 z
      omega
    unfold f_number_in m_number_in
    exists mn, nul, zer, g1, g2, g3, f1, f2, f3
    exists all
    exists f6, f4, f5, g4, back
  · have en : numI i = c :: l := by
      unfold numI
      rw [if_neg h0, e]
    rw [en] at back ⊢
    have g1 : dSlU (.str (mkS (c :: l))) none (some 1) = some (.str (mkS [c])) := sl_first (by omega)
    have g3 : dEqU [.str (mkS [c]), .str (mkS [45])] = some (.bool false) := by
      rw [eq_mk Lc L45]
      congr 2
      exact decide_eq_false fun z => by
        have := (List.cons.inj z).1
        omega
    by_cases g4 : c = 48
    · have hz := c3 g4
      have el : l = [] := by
        rw [hz] at e
        exact ((List.cons.inj (e.symm.trans (TL.numL_lt (by decide)))).2)
      subst el g4
      simp only [List.length_nil, List.map_nil] at f2 f3 f6
      have g5 : dNeU [.str (mkS [48]), .str (mkS [48])] = some (.bool false) := by
        rw [ne_mk L48 L48]
        rfl
      unfold f_number_in m_number_in
      exists mn, nul, zer, g1, g3, f1, f2, f3
      exists all
      exists f6, f4, f5, decide_eq_true (show (48 : Nat) = 48 from rfl), g5, back
    · unfold f_number_in m_number_in
      exists mn, nul, zer, g1, g3, f1, f2, f3
      exists all
      exists f6, f4, f5, decide_eq_false g4, back
def boolS (b : Bool) : Str := if b then "true" else "false"
def valL : Val → List Nat
  | .non => TL.tl "none"
  | .bool b => TL.tl (boolS b)
  | .int i => numI i
  | .str x => 39 :: (TL.tl x ++ [39])
def awL : Row → Option (List Nat)
  | .push v _ => some (valL v)
  | .nm _ n _ => some (TL.tl n)
  | .copy n _ => some (numI n)
  | .swap n _ => some (numI n)
  | .jmp _ m _ => some (numI m)
  | .tri m _ => some (numI m)
  | .label m _ => some (numI m)
  | .pr _ _ => none
  | .bare _ _ => none
  | .endtry _ => none
def tailL (r : Row) : List Nat := match awL r with
  | some a => 32 :: a
  | none => []
def lineL (r : Row) : List Nat := numI r.line ++ (32 :: (TL.tl r.op ++ tailL r))
def Row.lone : Row → Bool
  | .pr _ _ => true
  | .bare _ _ => true
  | .endtry _ => true
  | _ => false
theorem awL_none {r : Row} : awL r = none ↔ r.lone = true := by
  cases r <;> simp [awL, Row.lone]
def Wrd (l : List Nat) : Prop := l ≠ [] ∧ ∀ c, c ∈ l → 33 ≤ c ∧ c < 128
theorem Wrd.low {l : List Nat} (h : Wrd l) : Low l := fun c hc => (h.2 c hc).2
theorem Wrd.no {l : List Nat} (h : Wrd l) {s : Nat} (hs : s < 33) : s ∉ l := fun hc => by
  have := (h.2 s hc).1
  omega
theorem wd_num {i : Int} : Wrd (numI i) := ⟨numI_ne, fun c h => by
  unfold numI at h
  split at h
  · cases h with
    | head => decide
    | tail _ h =>
      have := TL.numL_digits _ c h
      omega
  · have := TL.numL_digits _ c h
    omega⟩
theorem op_all : ∀ x, x ∈ opWords → (!(TL.tl x).isEmpty && (TL.tl x).all fun c => decide (33 ≤ c) && decide (c < 128)) = true ∧ (TL.tl x).length ≤ 7 := by decide +kernel
theorem wd_op {r : Row} : Wrd (TL.tl r.op) := by
  obtain ⟨h1, h2⟩ := Bool.and_eq_true_iff.mp (op_all _ (op_word r)).1
  refine ⟨fun z => (by rw [z] at h1; cases h1), fun c hc => ?_⟩
  have := List.all_eq_true.mp h2 c hc
  simp only [Bool.and_eq_true, decide_eq_true_eq] at this
  exact this
theorem op_len {r : Row} : (TL.tl r.op).length ≤ 7 := (op_all _ (op_word r)).2
theorem wd_name {x : Str} (h : nameOk x = true) : Wrd (TL.tl x) ∧ (TL.tl x).length ≤ 4 := by
  unfold nameOk at h
  obtain ⟨h1, h2⟩ := Bool.and_eq_true_iff.mp h
  have h1 := of_decide_eq_true h1
  have al : ∀ c, c ∈ ("abcdefghijklmnopqrstuvwxyz" : Str).cps.toList → 33 ≤ c ∧ c < 128 := by decide +kernel
  have e : (TL.tl x).length = x.cps.size := Array.length_toList
  refine ⟨⟨fun z => ?_, fun c hc => al c (of_decide_eq_true (List.all_eq_true.mp h2 c hc))⟩, by omega⟩
  rw [z] at e
  simp at e
  omega
theorem kind_signs {x : Str} (h : kindOk x = true) : (∀ c, c ∈ TL.tl x → 65 ≤ c ∧ c < 128) ∧ 1 ≤ (TL.tl x).length ∧ (TL.tl x).length ≤ 8 := by
  unfold kindOk at h
  obtain ⟨h1, h2⟩ := Bool.and_eq_true_iff.mp h
  have h1 := of_decide_eq_true h1
  have al : ∀ c, c ∈ ("abcdefghijklmnopqrstuvwxyz" ++ "ABCDEFGHIJKLMNOPQRSTUVWXYZ" : Str).cps.toList → 65 ≤ c ∧ c < 128 := by decide +kernel
  have e : (TL.tl x).length = x.cps.size := Array.length_toList
  exact ⟨fun c hc => al c (of_decide_eq_true (List.all_eq_true.mp h2 c hc)), by omega, by omega⟩
theorem wd_val {v : Val} (h : valOk 1000000000 v = true) : Wrd (valL v) ∧ (valL v).length ≤ 11 := by
  cases v with
  | non => exact ⟨⟨by decide +kernel, by decide +kernel⟩, by decide +kernel⟩
  | bool b => cases b <;> exact ⟨⟨by decide +kernel, by decide +kernel⟩, by decide +kernel⟩
  | int i =>
    obtain ⟨h1, h2⟩ := Bool.and_eq_true_iff.mp (show (decide (-1000000000 ≤ i) && decide (i ≤ 1000000000)) = true from h)
    exact ⟨wd_num, numI_len ⟨of_decide_eq_true h1, of_decide_eq_true h2⟩⟩
  | str x =>
    obtain ⟨h1, h2, h3⟩ := kind_signs h
    refine ⟨⟨fun z => (by cases z), fun c hc => ?_⟩, ?_⟩
    · rcases List.mem_cons.mp hc with rfl | hc
      · decide
      · rcases List.mem_append.mp hc with hc | hc
        · have := h1 c hc
          omega
        · simp at hc
          omega
    · show ((TL.tl x ++ [39]).length + 1) ≤ 11
      rw [List.length_append]
      show (TL.tl x).length + 1 + 1 ≤ 11
      omega
theorem num_small {n : Nat} (h : n ≤ 9999) : (numI (n : Int)).length ≤ 4 := by
  have e : numI (n : Int) = TL.numL n := by
    unfold numI
    rw [if_neg (by omega)]
    rfl
  rw [e]
  exact TL.numL_len (by decide) (by omega)
theorem wd_arg {r : Row} (ok : r.ok = true) {a : List Nat} (h : awL r = some a) : Wrd a ∧ a.length ≤ 11 := by
  have n9 : ∀ n : Nat, n ≤ 99 → Wrd (numI (n : Int)) ∧ (numI (n : Int)).length ≤ 11 := fun n hn => ⟨wd_num, by
    have := num_small (n := n) (by omega)
    omega⟩
  cases r with
  | push v l =>
    cases h
    exact wd_val (Bool.and_eq_true_iff.mp ok).2
  | nm o n l =>
    cases h
    obtain ⟨h1, h2⟩ := wd_name (Bool.and_eq_true_iff.mp ok).2
    exact ⟨h1, by omega⟩
  | copy n l =>
    cases h
    have := of_decide_eq_true (Bool.and_eq_true_iff.mp (Bool.and_eq_true_iff.mp ok).2).2
    exact n9 n (by omega)
  | swap n l =>
    cases h
    have := of_decide_eq_true (Bool.and_eq_true_iff.mp (Bool.and_eq_true_iff.mp ok).2).2
    exact n9 n (by omega)
  | jmp o m l =>
    cases h
    exact n9 m (of_decide_eq_true (Bool.and_eq_true_iff.mp ok).2)
  | tri m l =>
    cases h
    exact n9 m (of_decide_eq_true (Bool.and_eq_true_iff.mp ok).2)
  | label m l =>
    cases h
    exact n9 m (of_decide_eq_true (Bool.and_eq_true_iff.mp ok).2)
  | _ => cases h
theorem tail_len {r : Row} (ok : r.ok = true) : (tailL r).length ≤ 12 := by
  unfold tailL
  cases h : awL r with
  | none => exact Nat.zero_le _
  | some a =>
    have := (wd_arg ok h).2
    show a.length + 1 ≤ 12
    omega
theorem line_len {r : Row} (ok : r.ok = true) : (lineL r).length ≤ 30 := by
  have h1 := num_small (row_line ok)
  have h2 := op_len (r := r)
  have h3 := tail_len ok
  unfold lineL
  rw [List.length_append, List.length_cons, List.length_append]
  omega
theorem line_low {r : Row} (ok : r.ok = true) : ∀ c, c ∈ lineL r → 32 ≤ c ∧ c < 128 := by
  intro c hc
  unfold lineL at hc
  rcases List.mem_append.mp hc with hc | hc
  · have := wd_num.2 c hc
    omega
  · rcases List.mem_cons.mp hc with rfl | hc
    · decide
    · rcases List.mem_append.mp hc with hc | hc
      · have := wd_op.2 c hc
        omega
      · unfold tailL at hc
        cases h : awL r with
        | none => rw [h] at hc; cases hc
        | some a =>
          rw [h] at hc
          rcases List.mem_cons.mp hc with rfl | hc
          · decide
          · have := (wd_arg ok h).1.2 c hc
            omega
section
variable {r : Row}
theorem o_npushT : dNeU [.str r.op, .str "push"] = some (.bool (!r.isPush)) := by
  cases r with
  | nm o n l => cases o <;> kernel_rfl
  | jmp o m l => cases o <;> kernel_rfl
  | pr o l => cases o <;> kernel_rfl
  | bare o l => cases o <;> kernel_rfl
  | _ => kernel_rfl
theorem o_pushT : dEqU [.str r.op, .str "push"] = some (.bool r.isPush) := by
  cases r with
  | nm o n l => cases o <;> kernel_rfl
  | jmp o m l => cases o <;> kernel_rfl
  | pr o l => cases o <;> kernel_rfl
  | bare o l => cases o <;> kernel_rfl
  | _ => kernel_rfl
theorem o_loneT : dInU [.str r.op, .tuple [(.str "add"), (.str "sub"), (.str "mul"), (.str "div"), (.str "rest"), (.str "less"), (.str "same"), (.str "drop"), (.str "neg"), (.str "not"), (.str "tell"), (.str "return"), (.str "raise"), (.str "endtry")]] = some (.bool r.lone) := by
  cases r with
  | nm o n l => cases o <;> kernel_rfl
  | jmp o m l => cases o <;> kernel_rfl
  | pr o l => cases o <;> kernel_rfl
  | bare o l => cases o <;> kernel_rfl
  | _ => kernel_rfl
theorem o_nloneT : dNinU [.str r.op, .tuple [(.str "add"), (.str "sub"), (.str "mul"), (.str "div"), (.str "rest"), (.str "less"), (.str "same"), (.str "drop"), (.str "neg"), (.str "not"), (.str "tell"), (.str "return"), (.str "raise"), (.str "endtry")]] = some (.bool (!r.lone)) := by
  cases r with
  | nm o n l => cases o <;> kernel_rfl
  | jmp o m l => cases o <;> kernel_rfl
  | pr o l => cases o <;> kernel_rfl
  | bare o l => cases o <;> kernel_rfl
  | _ => kernel_rfl
end
theorem js_c {m : M} {ms : List M} {a b : List Nat} {ρ ρ1 : En} {z : Option (D × En)} (h : m ρ = some (.str (mkS b), ρ1)) (hl : a.length + b.length ≤ 100000) (r : mJs ms (mkS (a ++ b)) ρ1 = z) : mJs (m :: ms) (mkS a) ρ = z := by
  show (m ρ).bind _ = z
  rw [h]
  show (if (mkS a ++ mkS b).length ≤ 100000 then mJs ms (mkS a ++ mkS b) ρ1 else none) = z
  rw [app_mk, len_mkS, if_pos (by rw [List.length_append]; exact hl)]
  exact r
theorem js_n {a : List Nat} {ρ : En} : mJs [] (mkS a) ρ = some (.str (mkS a), ρ) := rfl
theorem empty_mk : Str.empty = mkS [] := rfl
theorem show_mk {l : List Nat} (h : l.length ≤ 100000) : dShow [.str (mkS l)] = some (.str (mkS l)) := if_pos (by rw [len_mkS]; exact h)
theorem log_ok {i : Int} (h : -1000000000 ≤ i ∧ i ≤ 1000000000) : i.natAbs.log2 < 1920 := by
  by_cases h0 : i.natAbs = 0
  · rw [h0]
    decide
  · have : i.natAbs < 2 ^ 64 := by omega
    have := (Nat.log2_lt h0).mpr this
    omega
theorem show_num {i : Int} (h : -1000000000 ≤ i ∧ i ≤ 1000000000) : dShow [.int i] = some (.str (mkS (numI i))) := by
  rw [← wordI]
  exact if_pos (log_ok h)
theorem str_num {i : Int} (h : -1000000000 ≤ i ∧ i ≤ 1000000000) : dStr [.int i] = some (.str (mkS (numI i))) := by
  rw [← wordI]
  exact if_pos (log_ok h)
theorem lower_num {i : Int} (h : -1000000000 ≤ i ∧ i ≤ 1000000000) : dLower [.str (mkS (numI i))] = some (.str (mkS (numI i))) := by
  have hl := numI_len h
  show (if (mkS (numI i)).length ≤ 100000 then some (PyData.str (Txt.lower (mkS (numI i)))) else none) = _
  rw [len_mkS, if_pos (by omega), PySem.W.KXs.lower_still]
  intro c hc
  have hc : c ∈ numI i := hc
  unfold numI at hc
  split at hc
  · rcases List.mem_cons.mp hc with rfl | hc
    · decide
    · have := TL.numL_digits _ c hc
      omega
  · have := TL.numL_digits _ c hc
    omega
theorem sp_mk : (" " : Str) = mkS [32] := by decide +kernel
theorem qt_mk : ("'" : Str) = mkS [39] := by decide +kernel
theorem lf_mk : ("\n" : Str) = mkS [10] := by decide +kernel
theorem nul_mk : ("" : Str) = mkS [] := by decide +kernel
theorem spq_mk : (" '" : Str) = mkS [32, 39] := by decide +kernel
theorem js_sp {x : D} {a : List Nat} {ρ : En} {m : M} (h : m ρ = some (.str (mkS a), ρ)) (hl : a.length ≤ 1000) : mJs [mC (.str " "), m] Str.empty ρ = some (.str (mkS (32 :: a)), ρ) := by
  rw [empty_mk, sp_mk]
  refine js_c rfl (by decide) (js_c h ?_ js_n)
  show 1 + a.length ≤ 100000
  omega
theorem arg_text_ok {r : Row} (ok : r.ok = true) : f_arg_text [some r.d] = some (.str (mkS (tailL r)), [none]) := by
  have nums : ∀ (o : Str) (n l : Nat), n ≤ 99 → dNeU [.str o, .str "push"] = some (.bool true) → f_arg_text [some (.tuple [.str o, dN n, dN l])] = some (.str (mkS (32 :: numI n)), [none]) := fun o n l hn ho => by
    have js : mJs [mC (.str " "), m1 .fz (mVar 2) dShow] Str.empty [some (.tuple [.str o, dN n, dN l]), some (.str o), some (dN n), some (dN l)] = some (.str (mkS (32 :: numI n)), [some (.tuple [.str o, dN n, dN l]), some (.str o), some (dN n), some (dN l)]) := by
      have hn2 := num_small (n := n) (by omega)
      refine js_sp (x := .none) ?_ (by omega)
      exists show_num (i := (n : Int)) (by omega)
    unfold f_arg_text m_arg_text
    exists ho, show dIsN [dN n, .none] = some (.bool false) from rfl, js
  cases r with
  | push v l =>
    have hp : dNeU [.str "push", .str "push"] = some (.bool false) := by kernel_rfl
    cases v with
    | non => kernel_rfl
    | bool b => cases b <;> kernel_rfl
    | int i =>
      obtain ⟨h1, h2⟩ := Bool.and_eq_true_iff.mp (show (decide (-1000000000 ≤ i) && decide (i ≤ 1000000000)) = true from (Bool.and_eq_true_iff.mp ok).2)
      have hi : -1000000000 ≤ i ∧ i ≤ 1000000000 := ⟨of_decide_eq_true h1, of_decide_eq_true h2⟩
      have hl := numI_len hi
      show f_arg_text [some (.tuple [.str "push", .int i, dN l])] = some (.str (mkS (32 :: numI i)), [none])
      have ad : dAddU [.str (mkS [32]), .str (mkS (numI i))] = some (.str (mkS (32 :: numI i))) := add_mk (a := [32]) (by show 1 + _ ≤ _; omega)
      unfold f_arg_text m_arg_text
      exists hp, show dIs "str" [.int i] = some (.bool false) from rfl, show dIsN [.int i, .none] = some (.bool false) from rfl, str_num hi, lower_num hi, sp_mk, ad
    | str x =>
      obtain ⟨k1, k2, k3⟩ := kind_signs (Bool.and_eq_true_iff.mp ok).2
      have ex : x = mkS (TL.tl x) := (mkS_tl x).symm
      generalize TL.tl x = w at *
      subst ex
      show f_arg_text [some (.tuple [.str "push", .str (mkS w), dN l])] = some (.str (mkS (32 :: 39 :: (w ++ [39]))), [none])
      have js : mJs [mC (.str " '"), m1 .fz (mVar 2) dShow, mC (.str "'")] Str.empty [some (.tuple [.str "push", .str (mkS w), dN l]), some (.str "push"), some (.str (mkS w)), some (dN l)] = some (.str (mkS (32 :: 39 :: (w ++ [39]))), [some (.tuple [.str "push", .str (mkS w), dN l]), some (.str "push"), some (.str (mkS w)), some (dN l)]) := by
        rw [empty_mk, spq_mk, qt_mk]
        refine js_c rfl (by decide) (js_c (b := w) (by exists show_mk (l := w) (by omega)) ?_ (js_c rfl ?_ js_n))
        · show 2 + w.length ≤ _
          omega
        · rw [List.length_append]
          show 2 + w.length + 1 ≤ _
          omega
      unfold f_arg_text m_arg_text
      exists hp, show dIs "str" [.str (mkS w)] = some (.bool true) from rfl, js
  | nm o n l =>
    obtain ⟨w1, w2⟩ := wd_name (Bool.and_eq_true_iff.mp ok).2
    have ex : n = mkS (TL.tl n) := (mkS_tl n).symm
    show f_arg_text [some (.tuple [.str o.s, .str n, dN l])] = some (.str (mkS (32 :: TL.tl n)), [none])
    have ho : dNeU [.str o.s, .str "push"] = some (.bool true) := o_npushT (r := .nm o n l)
    generalize TL.tl n = w at *
    subst ex
    have js : mJs [mC (.str " "), m1 .fz (mVar 2) dShow] Str.empty [some (.tuple [.str o.s, .str (mkS w), dN l]), some (.str o.s), some (.str (mkS w)), some (dN l)] = some (.str (mkS (32 :: w)), [some (.tuple [.str o.s, .str (mkS w), dN l]), some (.str o.s), some (.str (mkS w)), some (dN l)]) := by
      refine js_sp (x := .none) ?_ (by omega)
      exists show_mk (l := w) (by omega)
    unfold f_arg_text m_arg_text
    exists ho, show dIsN [.str (mkS w), .none] = some (.bool false) from rfl, js
  | copy n l =>
    have := of_decide_eq_true (Bool.and_eq_true_iff.mp (Bool.and_eq_true_iff.mp ok).2).2
    exact nums _ n l (by omega) (o_npushT (r := .copy n l))
  | swap n l =>
    have := of_decide_eq_true (Bool.and_eq_true_iff.mp (Bool.and_eq_true_iff.mp ok).2).2
    exact nums _ n l (by omega) (o_npushT (r := .swap n l))
  | jmp o m l => exact nums _ m l (of_decide_eq_true (Bool.and_eq_true_iff.mp ok).2) (o_npushT (r := .jmp o m l))
  | tri m l => exact nums _ m l (of_decide_eq_true (Bool.and_eq_true_iff.mp ok).2) (o_npushT (r := .tri m l))
  | label m l => exact nums _ m l (of_decide_eq_true (Bool.and_eq_true_iff.mp ok).2) (o_npushT (r := .label m l))
  | pr o l => cases o <;> kernel_rfl
  | bare o l => cases o <;> kernel_rfl
  | endtry l => kernel_rfl
theorem key_no {c : Nat} {l : List Nat} (h : c < 65) : dKin false [("none", .none), ("true", (.bool true)), ("false", (.bool false))] [.str (mkS (c :: l))] = some (.bool false) := by
  have no : ∀ (x : Str) (k : Nat) (r : List Nat), TL.tl x = k :: r → 65 ≤ k → ¬ x = mkS (c :: l) := fun x k r e hk z => by
    have e2 := congrArg TL.tl z
    rw [e] at e2
    have := (List.cons.inj (show k :: r = c :: l from e2)).1
    omega
  have n1 := no "none" 110 [111, 110, 101] (by decide +kernel) (by decide)
  have n2 := no "true" 116 [114, 117, 101] (by decide +kernel) (by decide)
  have n3 := no "false" 102 [97, 108, 115, 101] (by decide +kernel) (by decide)
  show some (PyData.bool (if ("none" : Str) = mkS (c :: l) then some PyData.none else if ("true" : Str) = mkS (c :: l) then some (PyData.bool true) else if ("false" : Str) = mkS (c :: l) then some (PyData.bool false) else none).isSome) = _
  rw [if_neg n1, if_neg n2, if_neg n3]
  rfl
theorem numI_head {i : Int} : ∃ c l, numI i = c :: l ∧ c < 65 ∧ c ≠ 39 := by
  unfold numI
  split
  · exact ⟨45, _, rfl, by decide, by decide⟩
  · obtain ⟨c, l, e, h1, h2, _⟩ := numL_head (n := i.natAbs)
    exact ⟨c, l, e, by omega, by omega⟩
theorem arg_in_ok {r : Row} (ok : r.ok = true) {a : List Nat} (h : awL r = some a) {d : D} : f_arg_in [some (.str r.op), some (.str (mkS a)), some d] = some (r.arg, [none, none, none]) := by
  have L39 : Low [39] := by unfold Low; decide
  have nums : ∀ (o : Str) (n : Nat), n ≤ 99 → dInU [.str o, .tuple [(.str "load"), (.str "quick"), (.str "store"), (.str "clear")]] = some (.bool false) → dEqU [.str o, .str "push"] = some (.bool false) → f_arg_in [some (.str o), some (.str (mkS (numI n))), some d] = some (dN n, [none, none, none]) := fun o n hn h1 h2 => by
    unfold f_arg_in m_arg_in
    exists h1, h2, number_in_ok (i := (n : Int)) (d := d) (by omega)
  cases r with
  | push v l =>
    cases h
    have p1 : dInU [.str "push", .tuple [(.str "load"), (.str "quick"), (.str "store"), (.str "clear")]] = some (.bool false) := by kernel_rfl
    have p2 : dEqU [.str "push", .str "push"] = some (.bool true) := by kernel_rfl
    cases v with
    | non => kernel_rfl
    | bool b => cases b <;> kernel_rfl
    | int i =>
      obtain ⟨h1, h2⟩ := Bool.and_eq_true_iff.mp (show (decide (-1000000000 ≤ i) && decide (i ≤ 1000000000)) = true from (Bool.and_eq_true_iff.mp ok).2)
      have hi : -1000000000 ≤ i ∧ i ≤ 1000000000 := ⟨of_decide_eq_true h1, of_decide_eq_true h2⟩
      have nb := number_in_ok (d := d) hi
      have hl := numI_len hi
      have low := numI_low (i := i)
      show f_arg_in [some (.str "push"), some (.str (mkS (numI i))), some d] = some (.int i, [none, none, none])
      obtain ⟨c, l', e, c1, c2⟩ := numI_head (i := i)
      rw [e] at nb hl low ⊢
      rw [List.length_cons] at hl
      have f1 : dLenU [.str (mkS (c :: l'))] = some (.int ((l'.length : Int) + 1)) := len_mk (by rw [List.length_cons]; omega)
      have f2 : dGt [.int ((l'.length : Int) + 1), .int 2] = some (.bool (decide (2 ≤ l'.length))) := congrArg (fun b => some (PyData.bool b)) (decide_eq_decide.mpr (by omega))
      have f3 : dIxU [.str (mkS (c :: l')), .int 0] = some (.str (mkS [c])) := ix_mk (by rw [List.length_cons]; omega) at_0
      have f4 : dEqU [.str (mkS [c]), .str (mkS [39])] = some (.bool false) := by
        rw [eq_mk (fun x hx => low x (by simp at hx; rw [hx]; exact .head _)) L39]
        congr 2
        exact decide_eq_false fun z => c2 (List.cons.inj z).1
      by_cases h2 : 2 ≤ l'.length
      · unfold f_arg_in m_arg_in
        exists p1, p2, key_no (l := l') c1, f1, f2, decide_eq_true h2, f3, qt_mk, f4, nb
      · unfold f_arg_in m_arg_in
        exists p1, p2, key_no (l := l') c1, f1, f2, decide_eq_false h2, nb
    | str x =>
      have hk : kindOk x = true := (Bool.and_eq_true_iff.mp ok).2
      obtain ⟨k1, k2, k3⟩ := kind_signs hk
      have sz : x.cps.size ≤ 100000 := by
        have : (TL.tl x).length = x.cps.size := Array.length_toList
        omega
      have ik := is_kind_ok sz
      rw [hk] at ik
      have ex : x = mkS (TL.tl x) := (mkS_tl x).symm
      show f_arg_in [some (.str "push"), some (.str (mkS (39 :: (TL.tl x ++ [39])))), some d] = some (.str x, [none, none, none])
      generalize TL.tl x = w at *
      subst ex
      have hn : (39 :: (w ++ [39])).length = w.length + 2 := by rw [List.length_cons, List.length_append]; rfl
      have f1 : dLenU [.str (mkS (39 :: (w ++ [39])))] = some (.int ((w.length : Int) + 2)) := by
        rw [len_mk (by omega), hn]
        rfl
      have f2 : dGt [.int ((w.length : Int) + 2), .int 2] = some (.bool true) := congrArg (fun b => some (PyData.bool b)) (decide_eq_true (by omega))
      have f3 : dIxU [.str (mkS (39 :: (w ++ [39]))), .int 0] = some (.str (mkS [39])) := ix_mk (by omega) at_0
      have f4 : dEqU [.str (mkS [39]), .str (mkS [39])] = some (.bool true) := by
        rw [eq_mk L39 L39]
        rfl
      have f5 : dIxU [.str (mkS (39 :: (w ++ [39]))), .int (-1)] = some (.str (mkS [39])) := ix_mk (by omega) (at_m1 (c := 39) (l := 39 :: w))
      have f6 : dSlU (.str (mkS (39 :: (w ++ [39])))) (some 1) (some (-1)) = some (.str (mkS w)) := sl_mid (by omega)
      unfold f_arg_in m_arg_in
      exists p1, p2, key_no (c := 39) (l := w ++ [39]) (by decide), f1, f2, f3, qt_mk, f4, f5, f6, ik
  | nm o n l =>
    cases h
    have h1 := o_nm (r := .nm o n l)
    show f_arg_in [some (.str (Row.nm o n l).op), some (.str (mkS (TL.tl n))), some d] = some (.str n, [none, none, none])
    rw [mkS_tl]
    unfold f_arg_in m_arg_in
    exists h1, show Row.isNm (.nm o n l) = true from rfl
  | copy n l =>
    cases h
    have := of_decide_eq_true (Bool.and_eq_true_iff.mp (Bool.and_eq_true_iff.mp ok).2).2
    exact nums _ n (by omega) (o_nm (r := .copy n l)) (o_pushT (r := .copy n l))
  | swap n l =>
    cases h
    have := of_decide_eq_true (Bool.and_eq_true_iff.mp (Bool.and_eq_true_iff.mp ok).2).2
    exact nums _ n (by omega) (o_nm (r := .swap n l)) (o_pushT (r := .swap n l))
  | jmp o m l =>
    cases h
    exact nums _ m (of_decide_eq_true (Bool.and_eq_true_iff.mp ok).2) (o_nm (r := .jmp o m l)) (o_pushT (r := .jmp o m l))
  | tri m l =>
    cases h
    exact nums _ m (of_decide_eq_true (Bool.and_eq_true_iff.mp ok).2) (o_nm (r := .tri m l)) (o_pushT (r := .tri m l))
  | label m l =>
    cases h
    exact nums _ m (of_decide_eq_true (Bool.and_eq_true_iff.mp ok).2) (o_nm (r := .label m l)) (o_pushT (r := .label m l))
  | _ => cases h
def wordsL (r : Row) : List (List Nat) := numI r.line :: TL.tl r.op :: (awL r).toList
theorem line_words (r : Row) : TL.joinL [32] (wordsL r) = lineL r := by
  unfold wordsL lineL tailL
  cases awL r with
  | none => show numI r.line ++ ([32] ++ TL.tl r.op) = _; rw [List.append_nil]; rfl
  | some a => rfl
theorem split_mk {ls : List (List Nat)} {s : Nat} (hs : s < 33) (hne : ls ≠ []) (hp : ∀ p, p ∈ ls → s ∉ p) : Txt.split (mkS (TL.joinL [s] ls)) (mkS [s]) = ls.map mkS := by
  have e : mkS (TL.joinL [s] ls) = Txt.join (mkS [s]) (ls.map mkS) := TL.ext_tl (by
    rw [TL.join_eq, TL.tl_join, List.map_map]
    show TL.joinL [s] ls = TL.joinL [s] (ls.map fun l => TL.tl (mkS l))
    rw [show (fun l => TL.tl (mkS l)) = id from rfl, List.map_id])
  rw [e]
  refine TL.split_join (y := mkS [s]) (s := s) (S := []) rfl ?_ (fun z => hne (List.map_eq_nil_iff.mp z)) fun p hp2 => ?_
  · show (mkS [s]).cps.all (· < 256) = true
    rw [← Array.all_toList]
    show ([s].all fun x => decide (x < 256)) = true
    simp
    omega
  · obtain ⟨l, hl, rfl⟩ := List.mem_map.mp hp2
    exact hp l hl
theorem splitA_mk {ls : List (List Nat)} {s : Nat} (hs : s < 33) (hne : ls ≠ []) (hp : ∀ p, p ∈ ls → s ∉ p) (hl : (TL.joinL [s] ls).length ≤ 100000) : dSplitA (mkS (TL.joinL [s] ls)) [.str (mkS [s])] = some (.list (ls.map fun l => .str (mkS l))) := by
  show (if ((mkS [s]).length == 0) = false ∧ (mkS (TL.joinL [s] ls)).length ≤ 100000 then some (PyData.list ((Txt.split (mkS (TL.joinL [s] ls)) (mkS [s])).map PyData.str)) else none) = _
  rw [if_pos ⟨by rw [len_mkS]; rfl, by rw [len_mkS]; exact hl⟩, split_mk hs hne hp, List.map_map]
  rfl
theorem fits_of {r : Row} (ok : r.ok = true) : r.fits := by
  cases r with
  | push v l =>
    cases v with
    | str x =>
      obtain ⟨_, _, h⟩ := kind_signs (Bool.and_eq_true_iff.mp ok).2
      have : (TL.tl x).length = x.cps.size := Array.length_toList
      show x.cps.size ≤ 100000
      omega
    | _ => exact trivial
  | nm o n l =>
    obtain ⟨_, h⟩ := wd_name (Bool.and_eq_true_iff.mp ok).2
    have : (TL.tl n).length = n.cps.size := Array.length_toList
    show n.cps.size ≤ 100000
    omega
  | _ => exact trivial
theorem row_in_ok {r : Row} (ok : r.ok = true) {d : D} : f_row_in [some (.str (mkS (lineL r))), some d] = some (r.d, [none, none]) := by
  have hl := line_len ok
  have nofree : ∀ p, p ∈ wordsL r → 32 ∉ p := fun p hp => by
    unfold wordsL at hp
    rcases List.mem_cons.mp hp with rfl | hp
    · exact wd_num.no (by decide)
    · rcases List.mem_cons.mp hp with rfl | hp
      · exact wd_op.no (by decide)
      · exact (wd_arg ok (Option.mem_toList.mp hp)).1.no (by decide)
  have hd := splitA_mk (ls := wordsL r) (s := 32) (by decide) (by unfold wordsL; simp) nofree (by rw [line_words]; omega)
  rw [line_words] at hd
  have nl := number_in_ok (i := (r.line : Int)) (d := d) (by have := row_line ok; omega)
  have ir := is_row_ok (fits_of ok)
  rw [ok] at ir
  have opk : (mkS (TL.tl r.op)) = r.op := mkS_tl _
  have rd := Row.d_eq r
  cases ha : awL r with
  | none =>
    have hlone := awL_none.mp ha
    have harg : r.arg = .none := by
      cases r <;> first | rfl | (cases hlone)
    have sp : mSplit (mVar 0) (mC (.str " ")) [some (.str (mkS (lineL r))), some d, none, none, none] = some (.list [.str (mkS (numI r.line)), .str r.op], [some (.str (mkS (lineL r))), some d, none, none, none]) := by
      show m1 .fz (mC (.str " ")) (dSplitA (mkS (lineL r))) [some (.str (mkS (lineL r))), some d, none, none, none] = _
      unfold wordsL at hd
      rw [ha] at hd
      simp only [List.map_cons, Option.toList_none, List.map_nil, opk] at hd
      exists sp_mk, hd
    rw [rd, harg] at ir ⊢
    unfold f_row_in m_row_in
    exists sp
    exists show ∀ ρ : En, mgStar 2 1 (mgCons (mgN 2) (mgCons (mgN 3) mgNil)) (.list [.str (mkS (numI r.line)), .str r.op]) ρ = mgCons (mgN 2) (mgCons (mgN 3) mgNil) [.str (mkS (numI r.line)), .list [.str r.op]] ρ from fun _ => rfl
    exists show dLenU [.list [.str r.op]] = some (.int 1) from rfl, show dIxU [.list [.str r.op], .int 0] = some (.str r.op) from rfl, show dEqU [.int 1, .int 1] = some (.bool true) from rfl, show dEqU [.int 1, .int 2] = some (.bool false) from rfl, o_loneT (r := r), hlone, nl, ir
  | some a =>
    have hlone : r.lone = false := Bool.eq_false_iff.mpr fun z => by
      rw [awL_none.mpr z] at ha
      cases ha
    have ai := arg_in_ok ok ha (d := d)
    have sp : mSplit (mVar 0) (mC (.str " ")) [some (.str (mkS (lineL r))), some d, none, none, none] = some (.list [.str (mkS (numI r.line)), .str r.op, .str (mkS a)], [some (.str (mkS (lineL r))), some d, none, none, none]) := by
      show m1 .fz (mC (.str " ")) (dSplitA (mkS (lineL r))) [some (.str (mkS (lineL r))), some d, none, none, none] = _
      unfold wordsL at hd
      rw [ha] at hd
      simp only [List.map_cons, Option.toList_some, List.map_nil, opk] at hd
      exists sp_mk, hd
    rw [rd] at ir ⊢
    unfold f_row_in m_row_in
    exists sp
    exists show ∀ ρ : En, mgStar 2 1 (mgCons (mgN 2) (mgCons (mgN 3) mgNil)) (.list [.str (mkS (numI r.line)), .str r.op, .str (mkS a)]) ρ = mgCons (mgN 2) (mgCons (mgN 3) mgNil) [.str (mkS (numI r.line)), .list [.str r.op, .str (mkS a)]] ρ from fun _ => rfl
    exists show dLenU [.list [.str r.op, .str (mkS a)]] = some (.int 2) from rfl, show dIxU [.list [.str r.op, .str (mkS a)], .int 0] = some (.str r.op) from rfl, show dIxU [.list [.str r.op, .str (mkS a)], .int 1] = some (.str (mkS a)) from rfl, show dEqU [.int 2, .int 1] = some (.bool false) from rfl, show dEqU [.int 2, .int 2] = some (.bool true) from rfl, o_nloneT (r := r), hlone, ai, nl, ir
def textL (c : Code) : List Nat := (c.map fun r => lineL r ++ [10]).flatten
def RowsOk (c : Code) : Prop := ∀ r, r ∈ c → r.ok = true
theorem joinL_text : ∀ {c : Code}, c ≠ [] → textL c = TL.joinL [10] (c.map lineL) ++ [10]
  | [], h => absurd rfl h
  | [r], _ => by
    show (lineL r ++ [10]) ++ [] = lineL r ++ [10]
    rw [List.append_nil]
  | r :: s :: c, _ => by
    have ih := joinL_text (c := s :: c) (by simp)
    show (lineL r ++ [10]) ++ textL (s :: c) = (lineL r ++ ([10] ++ TL.joinL [10] ((s :: c).map lineL))) ++ [10]
    rw [ih]
    simp only [List.append_assoc]
theorem text_len : ∀ {c : Code}, RowsOk c → (textL c).length ≤ 31 * c.length
  | [], _ => Nat.le_refl _
  | r :: c, h => by
    have h1 := line_len (h r (.head _))
    have ih := text_len (c := c) fun x hx => h x (.tail _ hx)
    show ((lineL r ++ [10]) ++ textL c).length ≤ 31 * (c.length + 1)
    rw [List.length_append, List.length_append]
    show (lineL r).length + 1 + _ ≤ _
    omega
theorem text_low {c : Code} (h : RowsOk c) : Low (textL c) := fun x hx => by
  unfold textL at hx
  obtain ⟨l, hl, hx⟩ := List.mem_flatten.mp hx
  obtain ⟨r, hr, rfl⟩ := List.mem_map.mp hl
  rcases List.mem_append.mp hx with hx | hx
  · exact (line_low (h r hr) x hx).2
  · simp at hx
    omega
theorem strsD_mk (ls : List (List Nat)) : strsD (ls.map fun l => PyData.str (mkS l)) = some (ls.map mkS) := by
  rw [← strsD_map, List.map_map]
  rfl
theorem joinL_nil : ∀ ls : List (List Nat), TL.joinL [] ls = ls.flatten
  | [] => rfl
  | [p] => by
    show p = p ++ []
    rw [List.append_nil]
  | p :: q :: r => by
    show p ++ ([] ++ TL.joinL [] (q :: r)) = p ++ (q :: r).flatten
    rw [joinL_nil (q :: r), List.nil_append]
theorem joinA_mk {ls : List (List Nat)} (h : ls.flatten.length ≤ 100000) : dJoinA (mkS []) [.list (ls.map fun l => .str (mkS l))] = some (.str (mkS ls.flatten)) := by
  show (strsD (ls.map fun l => PyData.str (mkS l))).bind _ = _
  rw [strsD_mk]
  have e1 : ((ls.map mkS).map fun x => x.length).sum = ls.flatten.length := by
    rw [List.map_map, List.length_flatten]
    exact congrArg List.sum (List.map_congr_left fun l _ => len_mkS l)
  have e2 : Str.join (mkS []) (ls.map mkS) = mkS ls.flatten := TL.ext_tl (by
    rw [TL.tl_join, List.map_map]
    show TL.joinL [] (ls.map fun l => TL.tl (mkS l)) = ls.flatten
    rw [show (fun l => TL.tl (mkS l)) = id from rfl, List.map_id, joinL_nil])
  show (if ((ls.map mkS).map fun x => x.length).sum + (ls.map mkS).length * (mkS []).length ≤ 16777216 then some (PyData.str (Str.join (mkS []) (ls.map mkS))) else none) = _
  rw [e1, len_mkS, if_pos (by show _ + _ * 0 ≤ _; omega), e2]
theorem row_text_ok {r : Row} (ok : r.ok = true) {x : D} : mJs [m1 (.fz) (m2 (.fz) (.fz) (mVar 1) (mC (.int 2)) dIxU) dShow, mC (.str " "), m1 (.fz) (m2 (.fz) (.fz) (mVar 1) (mC (.int 0)) dIxU) dShow, m1 (.fz) (mCall f_arg_text [.fz] [] (maCons (mVar 1) maNil)) dShow, mC (.str "\n")] Str.empty [some x, some r.d] = some (.str (mkS (lineL r ++ [10])), [some x, some r.d]) := by
  have hl := line_len ok
  have h1 := num_small (row_line ok)
  have h2 := op_len (r := r)
  have h3 := tail_len ok
  have a1 : m1 (.fz) (m2 (.fz) (.fz) (mVar 1) (mC (.int 2)) dIxU) dShow [some x, some r.d] = some (.str (mkS (numI r.line)), [some x, some r.d]) := by
    exists row_3, show_num (i := (r.line : Int)) (by have := row_line ok; omega)
  have a2 : m1 (.fz) (m2 (.fz) (.fz) (mVar 1) (mC (.int 0)) dIxU) dShow [some x, some r.d] = some (.str (mkS (TL.tl r.op)), [some x, some r.d]) := by
    have := show_mk (l := TL.tl r.op) (by omega)
    rw [mkS_tl] at this ⊢
    exists row_0, this
  have a3 : m1 (.fz) (mCall f_arg_text [.fz] [] (maCons (mVar 1) maNil)) dShow [some x, some r.d] = some (.str (mkS (tailL r)), [some x, some r.d]) := by
    exists arg_text_ok ok, show_mk (l := tailL r) (by omega)
  rw [empty_mk, sp_mk, lf_mk]
  refine js_c a1 (by show 0 + _ ≤ _; omega) (js_c rfl ?_ (js_c a2 ?_ (js_c a3 ?_ (js_c rfl ?_ ?_))))
  · rw [List.nil_append]
    show _ + 1 ≤ _
    omega
  · rw [List.nil_append, List.length_append]
    show _ + 1 + _ ≤ _
    omega
  · rw [List.nil_append, List.length_append, List.length_append]
    show _ + 1 + _ + _ ≤ _
    omega
  · rw [List.nil_append, List.length_append, List.length_append, List.length_append]
    show _ + 1 + _ + _ + 1 ≤ _
    omega
  · rw [js_n]
    congr 3
    unfold lineL
    simp only [List.nil_append, List.append_assoc, List.cons_append]
theorem mJoin_eq {mb : M} {ρ ρ1 : En} {ds : List D} {z : D} (h : mb ρ = some (.list ds, ρ1)) (h2 : dJoinA (mkS []) [.list ds] = some z) : mJoin (mC (.str "")) .ow mb ρ = some (z, ρ1) := by
  show m1 .ow mb (dJoinA "") ρ = _
  rw [nul_mk]
  exists h, h2
theorem code_text_ok {c : Code} (hb : badPlace c = some none) (h1 : 1 ≤ c.length) (h2 : c.length ≤ 150) (ok : RowsOk c) : f_code_text [some c.d] = some (.str (mkS (textL c)), [none]) := by
  have hf : c.fits := ⟨by omega, fun r hr => fits_of (ok r hr)⟩
  have lk := look_code_ok hf hb h1 h2
  have tl := text_len ok
  have lc : mLc (mItU (mVar 0)) (mgN 1) mYes (mJs [m1 (.fz) (m2 (.fz) (.fz) (mVar 1) (mC (.int 2)) dIxU) dShow, mC (.str " "), m1 (.fz) (m2 (.fz) (.fz) (mVar 1) (mC (.int 0)) dIxU) dShow, m1 (.fz) (mCall f_arg_text [.fz] [] (maCons (mVar 1) maNil)) dShow, mC (.str "\n")] Str.empty) [1] [some c.d, none] = some (.list ((c.map fun r => lineL r ++ [10]).map fun l => .str (mkS l)), [some c.d, none]) := by
    rw [List.map_map]
    exists v_lc, v_itU
    exact lcM_eq (F := fun r => PyData.str (mkS (lineL r ++ [10]))) hf.1 fun r hr => ⟨_, rfl, _, row_text_ok (ok r hr), rfl⟩
  have jn := mJoin_eq lc (joinA_mk (by show (textL c).length ≤ 100000; omega))
  unfold f_code_text m_code_text
  exists lk, jn
  rfl
theorem enumF_snd {τ : Type} : ∀ {k : Nat} {xs : List τ}, (enumF k xs).map (fun p => p.2) = xs
  | _, [] => rfl
  | k, x :: xs => by
    show x :: (enumF (k + 1) xs).map _ = _
    rw [enumF_snd]
theorem read_code_ok {c : Code} (hb : badPlace c = some none) (h1 : 1 ≤ c.length) (h2 : c.length ≤ 150) (ok : RowsOk c) : f_read_code [some (.str (mkS (textL c)))] = some (c.d, [none]) := by
  have hf : c.fits := ⟨by omega, fun r hr => fits_of (ok r hr)⟩
  have lk := look_code_ok hf hb h1 h2
  have hl := text_len ok
  have hc : c ≠ [] := fun z => by
    rw [z] at h1
    exact absurd h1 (by decide)
  have L10 : Low [10] := by unfold Low; decide
  rw [joinL_text hc] at hl ⊢
  have hn : (TL.joinL [10] (c.map lineL) ++ [10]).length = (TL.joinL [10] (c.map lineL)).length + 1 := by rw [List.length_append]; rfl
  rw [hn] at hl
  have g1 : dSlU (.str (mkS (TL.joinL [10] (c.map lineL) ++ [10]))) (some (-1)) none = some (.str (mkS [10])) := sl_last (by omega)
  have g2 : dSlU (.str (mkS (TL.joinL [10] (c.map lineL) ++ [10]))) none (some (-1)) = some (.str (mkS (TL.joinL [10] (c.map lineL)))) := sl_init (by omega)
  have g3 : dNeU [.str (mkS [10]), .str (mkS [10])] = some (.bool false) := by
    rw [ne_mk L10 L10]
    rfl
  have hd := splitA_mk (ls := c.map lineL) (s := 10) (by decide) (fun z => hc (List.map_eq_nil_iff.mp z)) (fun p hp z => by
    obtain ⟨r, hr, rfl⟩ := List.mem_map.mp hp
    have := (line_low (ok r hr) 10 z).1
    omega) (by omega)
  rw [List.map_map] at hd
  generalize TL.joinL [10] (c.map lineL) = w at *
  have sp : mSplit (mSl (.fz) (mVar 0) mNo (mPt (m1 (.fz) (mC (.int 1)) dNeg)) dSlU) (mC (.str "\n")) [some (.str (mkS (w ++ [10]))), none, none, none, none, none] = some (.list (c.map fun r => .str (mkS (lineL r))), [some (.str (mkS (w ++ [10]))), none, none, none, none, none]) := by
    have e1 : mSl (.fz) (mVar 0) mNo (mPt (m1 (.fz) (mC (.int 1)) dNeg)) dSlU [some (.str (mkS (w ++ [10]))), none, none, none, none, none] = some (.str (mkS w), [some (.str (mkS (w ++ [10]))), none, none, none, none, none]) := by
      exists g2
    show (mSl (.fz) (mVar 0) mNo (mPt (m1 (.fz) (mC (.int 1)) dNeg)) dSlU _).bind _ = _
    rw [e1]
    show m1 .fz (mC (.str "\n")) (dSplitA (mkS w)) _ = _
    rw [lf_mk]
    exists hd
    rfl
  have f1 : dLenU [.list (c.map fun r => PyData.str (mkS (lineL r)))] = some (.int c.length) := by
    show some (PyData.int ((c.map fun r => PyData.str (mkS (lineL r))).length : Nat)) = _
    rw [List.length_map]
  have f2 : dGt [.int c.length, .int 150] = some (.bool false) := congrArg (fun b => some (PyData.bool b)) (decide_eq_false (by omega))
  have lc : ((mLcL ((enumF 0 c).map fun p => PyData.tuple [dN p.1, .str (mkS (lineL p.2))]) (mgT 2 (mgCons (mgN 4) (mgCons (mgN 5) mgNil))) mYes (mCall f_row_in [.fz, .fz] [] (maCons (mVar 5) (maCons (mVar 4) maNil))) [4, 5] [] [some (.str (mkS (w ++ [10]))), some (.list (c.map fun r => .str (mkS (lineL r)))), none, none, none, none]).bind fun q => some (PyData.list q.1, restE [some (.str (mkS (w ++ [10]))), some (.list (c.map fun r => .str (mkS (lineL r)))), none, none, none, none] [4, 5] q.2)) = some (c.d, [some (.str (mkS (w ++ [10]))), some (.list (c.map fun r => .str (mkS (lineL r)))), none, none, none, none]) := by
    rw [lcM_eq (F := fun (p : Nat × Row) => p.2.d) (by rw [enumF_len]; omega) fun p hp => ?_]
    · have := congrArg (List.map Row.d) (enumF_snd (k := 0) (xs := c))
      rw [List.map_map] at this
      exact congrArg (fun x => some (PyData.list x, _)) this
    · have hr : p.2 ∈ c := List.mem_of_getElem? (enumF_mem.mp hp)
      refine ⟨[some (.str (mkS (w ++ [10]))), some (.list (c.map fun r => .str (mkS (lineL r)))), none, none, some (dN p.1), some (.str (mkS (lineL p.2)))], rfl, [some (.str (mkS (w ++ [10]))), some (.list (c.map fun r => .str (mkS (lineL r)))), none, none, some (dN p.1), some (.str (mkS (lineL p.2)))], ?_, rfl⟩
      exists row_in_ok (ok p.2 hr) (d := dN p.1)
  unfold f_read_code m_read_code
  exists show dIs "str" [.str (mkS (w ++ [10]))] = some (.bool true) from rfl, g1, lf_mk, g3
  rw [← lf_mk]
  exists sp, f1, f2, lc, lk
theorem law_line_ok {r : Row} (ok : r.ok = true) : f__law_line [some r.d] = some (.str (mkS (lineL r)), [none]) := by
  have h1 := num_small (row_line ok)
  have h2 := op_len (r := r)
  have h3 := tail_len ok
  have sl := str_num (i := (r.line : Int)) (by have := row_line ok; omega)
  have opk : (mkS (TL.tl r.op)) = r.op := mkS_tl _
  have ad1 : dAddU [.str (mkS (numI r.line)), .str (mkS [32])] = some (.str (mkS (numI r.line ++ [32]))) := add_mk (by show _ + 1 ≤ _; omega)
  have ad2 : dAddU [.str (mkS (numI r.line ++ [32])), .str r.op] = some (.str (mkS ((numI r.line ++ [32]) ++ TL.tl r.op))) := by
    rw [← opk]
    exact add_mk (by rw [List.length_append]; show _ + 1 + (TL.tl r.op).length ≤ _; omega)
  have el : lineL r = ((numI r.line ++ [32]) ++ TL.tl r.op) ++ tailL r := by
    unfold lineL
    simp only [List.append_assoc, List.cons_append, List.nil_append]
  have fl : ((numI r.line ++ [32]) ++ TL.tl r.op).length ≤ 12 := by
    rw [List.length_append, List.length_append]
    show _ + 1 + _ ≤ _
    omega
  rw [el]
  generalize ((numI r.line ++ [32]) ++ TL.tl r.op) = f at *
  have ads : dAddU [.str (mkS f), .str (mkS [32])] = some (.str (mkS (f ++ [32]))) := add_mk (by show _ + 1 ≤ _; omega)
  have two : ∀ a : List Nat, a.length ≤ 11 → dAddU [.str (mkS (f ++ [32])), .str (mkS a)] = some (.str (mkS (f ++ 32 :: a))) := fun a ha => by
    rw [add_mk (by rw [List.length_append]; show _ + 1 + _ ≤ _; omega), List.append_assoc]
    rfl
  have one : ∀ a : List Nat, a.length ≤ 12 → dAddU [.str (mkS f), .str (mkS a)] = some (.str (mkS (f ++ a))) := fun a ha => add_mk (by omega)
  have np := o_pushT (r := r)
  have rd := Row.d_eq r
  cases ha : awL r with
  | none =>
    have hlone := awL_none.mp ha
    have harg : r.arg = .none := by
      cases r <;> first | rfl | (cases hlone)
    have hp : r.isPush = false := by
      cases r <;> first | rfl | (cases hlone)
    have ht : tailL r = [] := by
      unfold tailL
      rw [ha]
    rw [rd, harg, ht, List.append_nil]
    rw [hp] at np
    unfold f__law_line m__law_line
    exists sl, sp_mk, ad1, ad2, np, show dIsN [.none, .none] = some (.bool true) from rfl
  | some a =>
    have ha2 := (wd_arg ok ha).2
    have ht : tailL r = 32 :: a := by
      unfold tailL
      rw [ha]
    rw [ht]
    cases hp : r.isPush with
    | false =>
      have hs : dStr [r.arg] = some (.str (mkS a)) := by
        have nm : ∀ n : Nat, n ≤ 99 → dStr [dN n] = some (.str (mkS (numI n))) := fun n hn => str_num (i := (n : Int)) (by omega)
        cases r with
        | push v l => cases hp
        | nm o n l =>
          cases ha
          show some (PyData.str n) = some (.str (mkS (TL.tl n)))
          rw [mkS_tl]
        | copy n l =>
          cases ha
          have := of_decide_eq_true (Bool.and_eq_true_iff.mp (Bool.and_eq_true_iff.mp ok).2).2
          exact nm n (by omega)
        | swap n l =>
          cases ha
          have := of_decide_eq_true (Bool.and_eq_true_iff.mp (Bool.and_eq_true_iff.mp ok).2).2
          exact nm n (by omega)
        | jmp o m l =>
          cases ha
          exact nm m (of_decide_eq_true (Bool.and_eq_true_iff.mp ok).2)
        | tri m l =>
          cases ha
          exact nm m (of_decide_eq_true (Bool.and_eq_true_iff.mp ok).2)
        | label m l =>
          cases ha
          exact nm m (of_decide_eq_true (Bool.and_eq_true_iff.mp ok).2)
        | _ => cases ha
      have hn : dIsN [r.arg, .none] = some (.bool false) := by
        cases r <;> first | (cases hp; done) | (cases ha; done) | rfl
      rw [hp] at np
      rw [rd]
      unfold f__law_line m__law_line
      exists sl, sp_mk, ad1, ad2, np, hn, ads, hs, two a ha2
    | true =>
      rw [hp] at np
      cases r with
      | push v l =>
        cases ha
        have rd : (Row.push v l).d = .tuple [.str "push", v.d, dN l] := rfl
        have slP : dStr [dN l] = some (.str (mkS (numI l))) := sl
        have ad1P : dAddU [.str (mkS (numI l)), .str (mkS [32])] = some (.str (mkS (numI l ++ [32]))) := ad1
        have ad2P : dAddU [.str (mkS (numI l ++ [32])), .str "push"] = some (.str (mkS f)) := ad2
        have npP : dEqU [.str "push", .str "push"] = some (.bool true) := np
        rw [rd]
        cases v with
        | non =>
          have lo : dLower [.str "None"] = some (.str (mkS (TL.tl "none"))) := by kernel_rfl
          show _ = some (PyData.str (mkS (f ++ 32 :: TL.tl "none")), _)
          have t2 : dAddU [.str (mkS (f ++ [32])), .str (mkS (TL.tl "none"))] = some (.str (mkS (f ++ 32 :: TL.tl "none"))) := two _ ha2
          unfold f__law_line m__law_line
          exists show Val.d .non = PyData.none from rfl, slP, sp_mk, ad1P, ad2P, npP, show dIsN [.none, .none] = some (.bool true) from rfl, ads, show dStr [.none] = some (.str "None") from rfl, lo, t2
        | bool b =>
          have loT : dLower [.str "True"] = some (.str (mkS (TL.tl (boolS true)))) := by kernel_rfl
          have loF : dLower [.str "False"] = some (.str (mkS (TL.tl (boolS false)))) := by kernel_rfl
          have stT : dStr [.bool true] = some (.str "True") := rfl
          have stF : dStr [.bool false] = some (.str "False") := rfl
          have t2 : dAddU [.str (mkS (f ++ [32])), .str (mkS (TL.tl (boolS b)))] = some (.str (mkS (f ++ 32 :: TL.tl (boolS b)))) := two _ ha2
          show _ = some (PyData.str (mkS (f ++ 32 :: TL.tl (boolS b))), _)
          cases b <;>
          (unfold f__law_line m__law_line
           exists show ∀ b, Val.d (.bool b) = PyData.bool b from fun _ => rfl, slP, sp_mk, ad1P, ad2P, npP, show dIsN [.bool true, .none] = some (.bool false) from rfl, show dIsN [.bool false, .none] = some (.bool false) from rfl, show dIsB [.bool true, .bool true] = some (.bool true) from rfl, show dIsB [.bool false, .bool true] = some (.bool false) from rfl, show dIsB [.bool false, .bool false] = some (.bool true) from rfl, ads, stT, stF, loT, loF, t2)
        | int i =>
          obtain ⟨g1, g2⟩ := Bool.and_eq_true_iff.mp (show (decide (-1000000000 ≤ i) && decide (i ≤ 1000000000)) = true from (Bool.and_eq_true_iff.mp ok).2)
          have hi : -1000000000 ≤ i ∧ i ≤ 1000000000 := ⟨of_decide_eq_true g1, of_decide_eq_true g2⟩
          have ad3 : dAddU [.str (mkS [32]), .str (mkS (numI i))] = some (.str (mkS (32 :: numI i))) := add_mk (a := [32]) (by show 1 + _ ≤ _; have := numI_len hi; omega)
          have t2 := one (32 :: numI i) (by have := numI_len hi; show _ + 1 ≤ 12; omega)
          show _ = some (PyData.str (mkS (f ++ 32 :: numI i)), _)
          unfold f__law_line m__law_line
          exists show Val.d (.int i) = PyData.int i from rfl, slP, sp_mk, ad1P, ad2P, npP, show dIsN [.int i, .none] = some (.bool false) from rfl, show dIsB [.int i, .bool true] = some (.bool false) from rfl, show dIsB [.int i, .bool false] = some (.bool false) from rfl, show dIs "str" [.int i] = some (.bool false) from rfl, str_num hi, ad3, t2
        | str x =>
          obtain ⟨k1, k2, k3⟩ := kind_signs (Bool.and_eq_true_iff.mp ok).2
          have ex : mkS (TL.tl x) = x := mkS_tl x
          have ad3 : dAddU [.str (mkS [32, 39]), .str x] = some (.str (mkS (32 :: 39 :: TL.tl x))) := by
            rw [← ex]
            exact add_mk (a := [32, 39]) (by show 2 + (TL.tl x).length ≤ _; omega)
          have ad4 : dAddU [.str (mkS (32 :: 39 :: TL.tl x)), .str (mkS [39])] = some (.str (mkS (32 :: 39 :: (TL.tl x ++ [39])))) := add_mk (a := 32 :: 39 :: TL.tl x) (b := [39]) (by show (TL.tl x).length + 1 + 1 + 1 ≤ _; omega)
          have t2 := one (32 :: 39 :: (TL.tl x ++ [39])) (by show (TL.tl x ++ [39]).length + 1 + 1 ≤ 12; rw [List.length_append]; show (TL.tl x).length + 1 + 1 + 1 ≤ 12; omega)
          show _ = some (PyData.str (mkS (f ++ 32 :: 39 :: (TL.tl x ++ [39]))), _)
          unfold f__law_line m__law_line
          exists show Val.d (.str x) = PyData.str x from rfl, slP, sp_mk, spq_mk, qt_mk, ad1P, ad2P, npP, show dIsN [.str x, .none] = some (.bool false) from rfl, show dIsB [.str x, .bool true] = some (.bool false) from rfl, show dIsB [.str x, .bool false] = some (.bool false) from rfl, show dIs "str" [.str x] = some (.bool true) from rfl, ad3, ad4, t2
      | _ => cases hp
theorem wr_code {c : Code} (ok : CodeOk c) : Eq0 2 c.d := .list fun d m => by
  obtain ⟨r, h, rfl⟩ := List.mem_map.mp m
  have ro := (ok.rows r h).1
  rw [Row.d_eq]
  refine .tuple fun d m => ?_
  simp only [List.mem_cons, List.not_mem_nil, or_false] at m
  rcases m with rfl | rfl | rfl
  · have : ∀ z, z ∈ opWords → PyData.strOk z = true := by decide +kernel
    exact Eq0.str (this _ (op_word r))
  · cases r with
    | push v l => exact eq0_Val (ok.vals v l h)
    | nm o n l =>
      have h2 := (wd_name (Bool.and_eq_true_iff.mp ro).2).1.low
      have := strOk_mk h2
      rw [mkS_tl] at this
      exact Eq0.str this
    | copy n l => exact Eq0.int
    | swap n l => exact Eq0.int
    | jmp o n l => exact Eq0.int
    | tri n l => exact Eq0.int
    | label n l => exact Eq0.int
    | _ => exact Eq0.none
  · exact Eq0.int
theorem wr_same {c : Code} (ok : CodeOk c) : dNeU [c.d, c.d] = some (.bool false) := by
  rw [dNe_of (wr_code ok) (wr_code ok)]
  congr 2
  rw [SeqAt.eqv_refl c.d (wr_code ok).lay]
  rfl
def Vpick : List Val := [.int (-1000000000), .int 1000000000, .str "aB", .bool true, .int 1, .int 0, .bool false]
theorem more_ok {c : Code} (ok : CodeOk c) (hl : c.length ≤ 140) {v : Val} (hv : v ∈ Vpick) : CodeOk (.push v 0 :: .bare .drop 9999 :: c) := by
  have gv : v.good ∧ (Row.push v 0).ok = true := by
    have key : ∀ v, v ∈ Vpick → (Row.push v 0).ok = true := by
      intro v hv
      unfold Vpick at hv
      simp only [List.mem_cons, List.not_mem_nil, or_false] at hv
      rcases hv with rfl | rfl | rfl | rfl | rfl | rfl | rfl <;> decide +kernel
    refine ⟨?_, key v hv⟩
    unfold Vpick at hv
    simp only [List.mem_cons, List.not_mem_nil, or_false] at hv
    rcases hv with rfl | rfl | rfl | rfl | rfl | rfl | rfl
    · exact (by unfold BIG; decide : -BIG ≤ (-1000000000 : Int) ∧ (-1000000000 : Int) ≤ BIG)
    · exact (by unfold BIG; decide : -BIG ≤ (1000000000 : Int) ∧ (1000000000 : Int) ≤ BIG)
    · exact (by decide +kernel : ("aB" : Str) ∈ kinds)
    · exact trivial
    · exact (by unfold BIG; decide : -BIG ≤ (1 : Int) ∧ (1 : Int) ≤ BIG)
    · exact (by unfold BIG; decide : -BIG ≤ (0 : Int) ∧ (0 : Int) ≤ BIG)
    · exact trivial
  refine ⟨by rw [List.length_cons]; omega, by rw [List.length_cons, List.length_cons]; omega, fun r hr => ?_, fun w l hw => ?_, fun r hr hh => ?_, ?_⟩
  · rcases List.mem_cons.mp hr with rfl | hr
    · exact ⟨gv.2, fits_of gv.2⟩
    · rcases List.mem_cons.mp hr with rfl | hr
      · exact ⟨by decide +kernel, trivial⟩
      · exact ok.rows r hr
  · rcases List.mem_cons.mp hw with e | hw
    · cases e
      exact gv.1
    · rcases List.mem_cons.mp hw with e | hw
      · cases e
      · exact ok.vals w l hw
  · rcases List.mem_cons.mp hr with rfl | hr
    · cases hh
    · rcases List.mem_cons.mp hr with rfl | hr
      · cases hh
      · obtain ⟨l, hl⟩ := ok.hop r hr hh
        exact ⟨l, .tail _ (.tail _ hl)⟩
  · exact ok.lab
theorem law_go {ns : List Int} {t0 t1 t2 cd vd : D} {c : Code} (C : CodeOk c) (e0 : f__law_town [some (dL ns)] = some (t0, [none])) (e1 : f__law_code [some (dL ns), some t0, some (.int 5)] = some (cd, [none, some t1, none]))
    (e2 : f__law_pick [some (dL ns), some t1, some (.list [.int (-1000000000), .int 1000000000, .str "aB", .bool true, .int 1, .int 0, .bool false])] = some (vd, [none, some t2, none]))
    (ad : dAddU [.list [.tuple [.str "push", vd, .int 0], .tuple [.str "drop", .none, .int 9999]], cd] = some c.d) : ∃ o, f_law [some (dL ns)] = some (.bool true, o) := by
  have hrows : RowsOk c := fun r hr => (C.rows r hr).1
  have p9 : dPow [.int 10, .int 9] = some (.int 1000000000) := by kernel_rfl
  have ng : dNeg [.int 1000000000] = some (.int (-1000000000)) := rfl
  have h142 : c.length ≤ 150 := C.few
  have pos := C.pos
  have ct := code_text_ok C.place pos h142 hrows
  have rc := read_code_ok C.place pos h142 hrows
  have tl := text_len hrows
  have tlow := text_low hrows
  have k1 : dList [c.d] = some (c.d) := rfl
  have sc := shw_code C
  have nes := wr_same C
  have ex : ∀ (a3 a4 a5 : Option D), mJoin (mC (.str "")) (.ow) (mLc (mItU (mVar 2)) (mgN 7) mYes (m2 (.fz) (.fz) (mCall f__law_line [.fz] [] (maCons (mVar 7) maNil)) (mC (.str "\n")) dAddU) [7]) [some (dL ns), some t2, some c.d, a3, a4, a5, none, none] = some (.str (mkS (textL c)), [some (dL ns), some t2, some c.d, a3, a4, a5, none, none]) := fun a3 a4 a5 => by
    have lc : mLc (mItU (mVar 2)) (mgN 7) mYes (m2 (.fz) (.fz) (mCall f__law_line [.fz] [] (maCons (mVar 7) maNil)) (mC (.str "\n")) dAddU) [7] [some (dL ns), some t2, some c.d, a3, a4, a5, none, none] = some (.list ((c.map fun r => lineL r ++ [10]).map fun l => .str (mkS l)), [some (dL ns), some t2, some c.d, a3, a4, a5, none, none]) := by
      rw [List.map_map]
      exists v_lc, v_itU
      exact lcM_eq (F := fun r => PyData.str (mkS (lineL r ++ [10]))) (by omega) fun r hr => by
        have hll := line_len (hrows r hr)
        refine ⟨[some (dL ns), some t2, some c.d, a3, a4, a5, none, some r.d], rfl, [some (dL ns), some t2, some c.d, a3, a4, a5, none, some r.d], ?_, rfl⟩
        exists law_line_ok (hrows r hr), lf_mk, add_mk (a := lineL r) (b := [10]) (by show _ + 1 ≤ _; omega)
    exact mJoin_eq lc (joinA_mk (by show (textL c).length ≤ 100000; omega))
  have net : dNeU [.str (mkS (textL c)), .str (mkS (textL c))] = some (.bool false) := by
    rw [ne_mk tlow tlow, decide_eq_true rfl]
    rfl
  have eqt : dEqU [.str (mkS (textL c)), .str (mkS (textL c))] = some (.bool true) := by
    rw [eq_mk tlow tlow, decide_eq_true rfl]
  have isl : dIs "list" [c.d] = some (.bool true) := rfl
  have sl := show_l sc
  have se := shown_eq sc
  exact ⟨_, by
    unfold f_law m_law
    exists e0, e1, p9, ng, e2, ad, k1, ct, ex, net, nes, rc
    exists show f__law_shown [some c.d] = _ from sl, se, isl, ct, eqt
    rfl⟩
theorem law_true (ns : List Int) (hn : ns.length ≤ 63) : ∃ o, f_law [some (dL ns)] = some (.bool true, o) := by
  obtain ⟨t0, e0, T0⟩ := town_eq hn
  obtain ⟨c0, t1, e1, T1, S, hl⟩ := code_ok2 (many := 5) T0 (by omega) (by omega)
  obtain ⟨d, t2, e2, hd, T2⟩ := pick_eq (xs := Vpick.map Val.d) T1 (by omega) (by decide)
  obtain ⟨v, hv, rfl⟩ := List.mem_map.mp hd
  exact law_go (more_ok S.snd.ok hl hv) e0 e1 e2 (cat_list (u := Row.d) (xs := [.push v 0, .bare .drop 9999]) (ys := c0) (by show 2 + _ ≤ _; omega))
theorem glo_of {K : PySem.W.Frag} {h : Heap} {mg : Str → Option Value} {x n q : Str} {params : Arguments} {body : List Stmt} {scope : Scope} {dvs : List V} {kws : List (Str × V)} {fd : FuncData} (X : K.In h) (G : h.Ns mainGlobals mg) (z : noF0 K = true) (F : FunD K n q params body scope dvs kws (He.fAd K (x, none)) fd) : mg x = some (.ref (He.ga K x)) := by
  obtain ⟨oc, od, dV, kV, doc, pm, an, cd, ct, osl, _, lk, _⟩ := F.ex
  have e : PySem.W.nsIn K mainGlobals x = some (some (.ref (He.ga K x))) := by
    have lk : K.lookup (He.ga K x) = _ := lk
    unfold He.ga at lk ⊢
    split at lk
    · rename_i a ha
      rw [ha]
    · unfold noF0 at z
      rw [lk] at z
      cases z
  exact PySem.W.mg_of X G e
theorem facts {P : Program} {w : World} {K : PySem.W.Frag} {h : Heap} {mg : Str → Option Value} {f : Addr} (X : K.In h) (G : h.Ns mainGlobals mg) (hfa : mg ("law" : Str) = some (.ref f)) (cx : He.SaysX fa fn ts [] exHB w h K) :
    ∃ fd : FuncData, (∀ (s : Shared) (v : Value), BindsTo s fd ⟨[v], []⟩ [("_law_script", v)]) ∧ ∀ base : Heap, K.In base → base.Ns mainGlobals mg → FnG P w K mg base CX0 21 f fd ["_law_script"] (spF K [.fz] f_law .fz) := by
  have c := cx.t.d
  have B : Bt mg := ⟨fun x hx => by
    obtain ⟨i, hi⟩ := List.mem_iff_getElem?.mp hx
    refine He.free_ok X G (c.fact i (f := .free x) ?_)
    unfold fa
    rw [List.getElem?_append_left (by rw [List.length_map]; exact (List.getElem?_eq_some_iff.mp hi).1), List.getElem?_map, hi]
    rfl⟩
  have hx0 : exHB K = true := cx.more
  unfold exHB at hx0
  have hx1 := (He.ba hx0).2
  have hx2 := (He.ba hx1).2
  have hx3 := (He.ba hx2).2
  have hx4 := (He.ba hx3).2
  have hx5 := (He.ba hx4).2
  have hx6 := (He.ba hx5).2
  have hx7 := (He.ba hx6).2
  have hx8 := (He.ba hx7).2
  have hx9 := (He.ba hx8).2
  have hx10 := (He.ba hx9).2
  have hx11 := (He.ba hx10).2
  have hx12 := (He.ba hx11).2
  have hx13 := (He.ba hx12).2
  have z0 := (He.ba hx12).1
  have C : Ct K w mg := ⟨gc_ok X G (He.ba hx0).1, gc_ok X G (He.ba hx1).1, gd_ok (h := h) (He.glo_ok X G (c.fact 20 (f := .glo "COUNTED") rfl)) (cx.t.tab 0 (t := (fun K => He.ga K "COUNTED", ["copy", "swap"])) rfl) (He.ba hx2).1, gc_ok X G (He.ba hx3).1, gc_ok X G (He.ba hx4).1, gc_ok X G (He.ba hx5).1, gc_ok X G (He.ba hx6).1, gc_ok X G (He.ba hx7).1, gc_ok X G (He.ba hx8).1, gc_ok X G (He.ba hx9).1, gd_ok (h := h) (He.glo_ok X G (c.fact 21 (f := .glo "WORDS") rfl)) (cx.t.tab 1 (t := (fun K => He.ga K "WORDS", ["none", "true", "false"])) rfl) (He.ba hx10).1⟩
  obtain ⟨fd_is_number, F_is_number⟩ := c.def_ 0 (d := d_is_number) rfl
  have M_is_number := glo_of (x := "is_number") X G z0 F_is_number
  obtain ⟨fd_is_name, F_is_name⟩ := c.def_ 1 (d := d_is_name) rfl
  have M_is_name := glo_of (x := "is_name") X G z0 F_is_name
  obtain ⟨fd_is_kind, F_is_kind⟩ := c.def_ 2 (d := d_is_kind) rfl
  have M_is_kind := glo_of (x := "is_kind") X G z0 F_is_kind
  obtain ⟨fd_is_value, F_is_value⟩ := c.def_ 3 (d := d_is_value) rfl
  have M_is_value := glo_of (x := "is_value") X G z0 F_is_value
  obtain ⟨fd_is_mark, F_is_mark⟩ := c.def_ 4 (d := d_is_mark) rfl
  have M_is_mark := glo_of (x := "is_mark") X G z0 F_is_mark
  obtain ⟨fd_is_row, F_is_row⟩ := c.def_ 5 (d := d_is_row) rfl
  have M_is_row := glo_of (x := "is_row") X G z0 F_is_row
  obtain ⟨fd_bad_place, F_bad_place⟩ := c.def_ 6 (d := d_bad_place) rfl
  have M_bad_place := glo_of (x := "bad_place") X G z0 F_bad_place
  obtain ⟨fd_look_code, F_look_code⟩ := c.def_ 7 (d := d_look_code) rfl
  have M_look_code := glo_of (x := "look_code") X G z0 F_look_code
  obtain ⟨fd_arg_text, F_arg_text⟩ := c.def_ 8 (d := d_arg_text) rfl
  have M_arg_text := glo_of (x := "arg_text") X G z0 F_arg_text
  obtain ⟨fd_code_text, F_code_text⟩ := c.def_ 9 (d := d_code_text) rfl
  have M_code_text := glo_of (x := "code_text") X G z0 F_code_text
  obtain ⟨fd_number_in, F_number_in⟩ := c.def_ 10 (d := d_number_in) rfl
  have M_number_in := glo_of (x := "number_in") X G z0 F_number_in
  obtain ⟨fd_arg_in, F_arg_in⟩ := c.def_ 11 (d := d_arg_in) rfl
  have M_arg_in := glo_of (x := "arg_in") X G z0 F_arg_in
  obtain ⟨fd_row_in, F_row_in⟩ := c.def_ 12 (d := d_row_in) rfl
  have M_row_in := glo_of (x := "row_in") X G z0 F_row_in
  obtain ⟨fd_read_code, F_read_code⟩ := c.def_ 13 (d := d_read_code) rfl
  have M_read_code := glo_of (x := "read_code") X G z0 F_read_code
  obtain ⟨fd__law_town, F__law_town⟩ := c.def_ 14 (d := d__law_town) rfl
  have M__law_town := glo_of (x := "_law_town") X G z0 F__law_town
  obtain ⟨fd__law_draw, F__law_draw⟩ := c.def_ 15 (d := d__law_draw) rfl
  have M__law_draw := glo_of (x := "_law_draw") X G z0 F__law_draw
  obtain ⟨fd__law_pick, F__law_pick⟩ := c.def_ 16 (d := d__law_pick) rfl
  have M__law_pick := glo_of (x := "_law_pick") X G z0 F__law_pick
  obtain ⟨fd__law_const, F__law_const⟩ := c.def_ 17 (d := d__law_const) rfl
  have M__law_const := glo_of (x := "_law_const") X G z0 F__law_const
  obtain ⟨fd__law_put, F__law_put⟩ := c.def_ 18 (d := d__law_put) rfl
  have M__law_put := glo_of (x := "_law_put") X G z0 F__law_put
  obtain ⟨fd__law_mark, F__law_mark⟩ := c.def_ 19 (d := d__law_mark) rfl
  have M__law_mark := glo_of (x := "_law_mark") X G z0 F__law_mark
  obtain ⟨fd__law_value, F__law_value⟩ := c.def_ 20 (d := d__law_value) rfl
  have M__law_value := glo_of (x := "_law_value") X G z0 F__law_value
  obtain ⟨fd__law_tried_value, F__law_tried_value⟩ := c.def_ 21 (d := d__law_tried_value) rfl
  have M__law_tried_value := glo_of (x := "_law_tried_value") X G z0 F__law_tried_value
  obtain ⟨fd__law_moved_value, F__law_moved_value⟩ := c.def_ 22 (d := d__law_moved_value) rfl
  have M__law_moved_value := glo_of (x := "_law_moved_value") X G z0 F__law_moved_value
  obtain ⟨fd__law_deed, F__law_deed⟩ := c.def_ 23 (d := d__law_deed) rfl
  have M__law_deed := glo_of (x := "_law_deed") X G z0 F__law_deed
  obtain ⟨fd__law_choice, F__law_choice⟩ := c.def_ 24 (d := d__law_choice) rfl
  have M__law_choice := glo_of (x := "_law_choice") X G z0 F__law_choice
  obtain ⟨fd__law_round, F__law_round⟩ := c.def_ 25 (d := d__law_round) rfl
  have M__law_round := glo_of (x := "_law_round") X G z0 F__law_round
  obtain ⟨fd__law_tried, F__law_tried⟩ := c.def_ 26 (d := d__law_tried) rfl
  have M__law_tried := glo_of (x := "_law_tried") X G z0 F__law_tried
  obtain ⟨fd__law_code, F__law_code⟩ := c.def_ 27 (d := d__law_code) rfl
  have M__law_code := glo_of (x := "_law_code") X G z0 F__law_code
  obtain ⟨fd__law_shown, F__law_shown⟩ := c.def_ 28 (d := d__law_shown) rfl
  have M__law_shown := glo_of (x := "_law_shown") X G z0 F__law_shown
  obtain ⟨fd__law_line, F__law_line⟩ := c.def_ 29 (d := d__law_line) rfl
  have M__law_line := glo_of (x := "_law_line") X G z0 F__law_line
  obtain ⟨fd_law, F_law⟩ := c.def_ 30 (d := d_law) rfl
  have e := hfa.symm.trans (glo_of (x := "law") X G z0 F_law)
  cases e
  have b := FunD.bindsA (ps := ["_law_script"]) F_law fun _ _ _ _ _ _ us hl => match us, hl with | [_], _ => rfl
  refine ⟨fd_law, fun s v => b s [v] rfl, fun base _ _ => ?_⟩
  have G_is_number : FnX P w K mg base "is_number" 1 ["thing", "least", "most"] (spF K [.fz, .fz, .fz] f_is_number .fz) := ⟨_, fd_is_number, ok_is_number F_is_number B C, M_is_number, F_is_number.kp, F_is_number.bindsN fun _ _ _ _ _ _ us hl => match us, hl with | [_, _, _], _ => rfl⟩
  have G_is_name : FnX P w K mg base "is_name" 1 ["thing"] (spF K [.fz] f_is_name .fz) := ⟨_, fd_is_name, ok_is_name F_is_name B C, M_is_name, F_is_name.kp, F_is_name.bindsN fun _ _ _ _ _ _ us hl => match us, hl with | [_], _ => rfl⟩
  have G_is_kind : FnX P w K mg base "is_kind" 1 ["thing"] (spF K [.fz] f_is_kind .fz) := ⟨_, fd_is_kind, ok_is_kind F_is_kind B C, M_is_kind, F_is_kind.kp, F_is_kind.bindsN fun _ _ _ _ _ _ us hl => match us, hl with | [_], _ => rfl⟩
  have G_is_value : FnX P w K mg base "is_value" 2 ["thing", "most"] (spF K [.fz, .fz] f_is_value .fz) := ⟨_, fd_is_value, ok_is_value F_is_value B C G_is_kind G_is_number, M_is_value, F_is_value.kp, F_is_value.bindsN fun _ _ _ _ _ _ us hl => match us, hl with | [_, _], _ => rfl⟩
  have G_is_mark : FnX P w K mg base "is_mark" 2 ["thing"] (spF K [.fz] f_is_mark .fz) := ⟨_, fd_is_mark, ok_is_mark F_is_mark B C G_is_number, M_is_mark, F_is_mark.kp, F_is_mark.bindsN fun _ _ _ _ _ _ us hl => match us, hl with | [_], _ => rfl⟩
  have G_is_row : FnX P w K mg base "is_row" 3 ["thing"] (spF K [.fz] f_is_row .fz) := ⟨_, fd_is_row, ok_is_row F_is_row B C G_is_mark G_is_name G_is_number G_is_value, M_is_row, F_is_row.kp, F_is_row.bindsN fun _ _ _ _ _ _ us hl => match us, hl with | [_], _ => rfl⟩
  have G_bad_place : FnX P w K mg base "bad_place" 4 ["code"] (spF K [.fz] f_bad_place .fz) := ⟨_, fd_bad_place, ok_bad_place F_bad_place B C G_is_row, M_bad_place, F_bad_place.kp, F_bad_place.bindsN fun _ _ _ _ _ _ us hl => match us, hl with | [_], _ => rfl⟩
  have G_look_code : FnX P w K mg base "look_code" 5 ["code"] (spF K [.fz] f_look_code .fz) := ⟨_, fd_look_code, ok_look_code F_look_code B C G_bad_place, M_look_code, F_look_code.kp, F_look_code.bindsN fun _ _ _ _ _ _ us hl => match us, hl with | [_], _ => rfl⟩
  have G_arg_text : FnX P w K mg base "arg_text" 1 ["row"] (spF K [.fz] f_arg_text .fz) := ⟨_, fd_arg_text, ok_arg_text F_arg_text B C, M_arg_text, F_arg_text.kp, F_arg_text.bindsN fun _ _ _ _ _ _ us hl => match us, hl with | [_], _ => rfl⟩
  have G_code_text : FnX P w K mg base "code_text" 6 ["code"] (spF K [.fz] f_code_text .fz) := ⟨_, fd_code_text, ok_code_text F_code_text B C G_arg_text G_look_code, M_code_text, F_code_text.kp, F_code_text.bindsN fun _ _ _ _ _ _ us hl => match us, hl with | [_], _ => rfl⟩
  have G_number_in : FnX P w K mg base "number_in" 1 ["word", "at"] (spF K [.fz, .fz] f_number_in .fz) := ⟨_, fd_number_in, ok_number_in F_number_in B C, M_number_in, F_number_in.kp, F_number_in.bindsN fun _ _ _ _ _ _ us hl => match us, hl with | [_, _], _ => rfl⟩
  have G_arg_in : FnX P w K mg base "arg_in" 2 ["op", "word", "at"] (spF K [.fz, .fz, .fz] f_arg_in .fz) := ⟨_, fd_arg_in, ok_arg_in F_arg_in B C G_is_kind G_number_in, M_arg_in, F_arg_in.kp, F_arg_in.bindsN fun _ _ _ _ _ _ us hl => match us, hl with | [_, _, _], _ => rfl⟩
  have G_row_in : FnX P w K mg base "row_in" 4 ["line", "at"] (spF K [.fz, .fz] f_row_in .fz) := ⟨_, fd_row_in, ok_row_in F_row_in B C G_arg_in G_is_row G_number_in, M_row_in, F_row_in.kp, F_row_in.bindsN fun _ _ _ _ _ _ us hl => match us, hl with | [_, _], _ => rfl⟩
  have G_read_code : FnX P w K mg base "read_code" 6 ["text"] (spF K [.fz] f_read_code .fz) := ⟨_, fd_read_code, ok_read_code F_read_code B C G_look_code G_row_in, M_read_code, F_read_code.kp, F_read_code.bindsN fun _ _ _ _ _ _ us hl => match us, hl with | [_], _ => rfl⟩
  have G__law_town : FnX P w K mg base "_law_town" 1 ["_law_script"] (spF K [.fz] f__law_town .ow) := ⟨_, fd__law_town, ok__law_town F__law_town B C, M__law_town, F__law_town.kp, F__law_town.bindsN fun _ _ _ _ _ _ us hl => match us, hl with | [_], _ => rfl⟩
  have G__law_draw : FnX P w K mg base "_law_draw" 1 ["_law_script", "_law_town_here", "_law_many"] (spF K [.fz, .io, .fz] f__law_draw .fz) := ⟨_, fd__law_draw, ok__law_draw F__law_draw B C, M__law_draw, F__law_draw.kp, F__law_draw.bindsN fun _ _ _ _ _ _ us hl => match us, hl with | [_, _, _], _ => rfl⟩
  have G__law_pick : FnX P w K mg base "_law_pick" 2 ["_law_script", "_law_town_here", "_law_some"] (spF K [.fz, .io, .fz] f__law_pick .fz) := ⟨_, fd__law_pick, ok__law_pick F__law_pick B C G__law_draw, M__law_pick, F__law_pick.kp, F__law_pick.bindsN fun _ _ _ _ _ _ us hl => match us, hl with | [_, _, _], _ => rfl⟩
  have G__law_const : FnX P w K mg base "_law_const" 3 ["_law_script", "_law_town_here"] (spF K [.fz, .io] f__law_const .fz) := ⟨_, fd__law_const, ok__law_const F__law_const B C G__law_pick, M__law_const, F__law_const.kp, F__law_const.bindsN fun _ _ _ _ _ _ us hl => match us, hl with | [_, _], _ => rfl⟩
  have G__law_put : FnX P w K mg base "_law_put" 1 ["_law_rows", "_law_op", "_law_arg"] (spF K [.io, .fz, .fz] f__law_put .fz) := ⟨_, fd__law_put, ok__law_put F__law_put B C, M__law_put, F__law_put.kp, binds_nil (F__law_put.binds1 3 1 (List.cons_ne_nil _ _) rfl fun T kV doc pm an cdv ct us its hl hi => match us, its, hl, hi with | [_, _, _], [_], _, _ => ⟨_, rfl, rfl⟩)⟩
  have G1__law_put : FnXD P w K mg base "_law_put" 1 ["_law_rows", "_law_op", "_law_arg"] (spF K [.io, .fz, .fz] f__law_put .fz) [.none] := fnXD_of (ok__law_put F__law_put B C) M__law_put F__law_put.kp (F__law_put.binds1 2 0 (List.cons_ne_nil _ _) rfl fun T kV doc pm an cdv ct us its hl hi => match us, its, hl, hi with | [_, _], [_], _, _ => ⟨_, rfl, rfl⟩) (fun _ => ⟨_, _, rfl, rfl, rfl⟩)
  have G__law_mark : FnX P w K mg base "_law_mark" 1 ["_law_marks"] (spF K [.io] f__law_mark .fz) := ⟨_, fd__law_mark, ok__law_mark F__law_mark B C, M__law_mark, F__law_mark.kp, F__law_mark.bindsN fun _ _ _ _ _ _ us hl => match us, hl with | [_], _ => rfl⟩
  have R__law_value : ∀ n : Nat, FnX P w K mg base "_law_value" (3 + n) ["_law_script", "_law_town_here", "_law_rows", "_law_marks", "_law_deep"] (spF K [.fz, .io, .io, .io, .fz] (fR__law_value n) .fz) ∧ FnX P w K mg base "_law_tried_value" (3 + n) ["_law_script", "_law_town_here", "_law_rows", "_law_marks", "_law_deep"] (spF K [.fz, .io, .io, .io, .fz] (fR__law_tried_value n) .fz) ∧ FnX P w K mg base "_law_moved_value" (3 + n) ["_law_script", "_law_town_here", "_law_rows", "_law_marks", "_law_deep"] (spF K [.fz, .io, .io, .io, .fz] (fR__law_moved_value n) .fz) := by
    intro n
    induction n with
    | zero => exact ⟨fnX_none ⟨_, fd__law_value, M__law_value, F__law_value.kp, F__law_value.bindsN fun _ _ _ _ _ _ us hl => match us, hl with | [_, _, _, _, _], _ => rfl⟩ (fun _ => rfl), fnX_none ⟨_, fd__law_tried_value, M__law_tried_value, F__law_tried_value.kp, F__law_tried_value.bindsN fun _ _ _ _ _ _ us hl => match us, hl with | [_, _, _, _, _], _ => rfl⟩ (fun _ => rfl), fnX_none ⟨_, fd__law_moved_value, M__law_moved_value, F__law_moved_value.kp, F__law_moved_value.bindsN fun _ _ _ _ _ _ us hl => match us, hl with | [_, _, _, _, _], _ => rfl⟩ (fun _ => rfl)⟩
    | succ n ih =>
      obtain ⟨h__law_value, h__law_tried_value, h__law_moved_value⟩ := ih
      exact ⟨⟨⟨_, fd__law_value, ok__law_value (L := 3 + n) F__law_value B C (G__law_const.up (by omega)) (G__law_draw.up (by omega)) (G__law_mark.up (by omega)) h__law_moved_value (G__law_pick.up (by omega)) (G__law_put.up (by omega)) h__law_tried_value h__law_value (G1__law_put.up (by omega)), M__law_value, F__law_value.kp, F__law_value.bindsN fun _ _ _ _ _ _ us hl => match us, hl with | [_, _, _, _, _], _ => rfl⟩⟩, ⟨⟨_, fd__law_tried_value, ok__law_tried_value (L := 3 + n) F__law_tried_value B C (G__law_mark.up (by omega)) (G__law_put.up (by omega)) h__law_value (G1__law_put.up (by omega)), M__law_tried_value, F__law_tried_value.kp, F__law_tried_value.bindsN fun _ _ _ _ _ _ us hl => match us, hl with | [_, _, _, _, _], _ => rfl⟩⟩, ⟨⟨_, fd__law_moved_value, ok__law_moved_value (L := 3 + n) F__law_moved_value B C (G__law_draw.up (by omega)) (G__law_pick.up (by omega)) (G__law_put.up (by omega)) h__law_value (G1__law_put.up (by omega)), M__law_moved_value, F__law_moved_value.kp, F__law_moved_value.bindsN fun _ _ _ _ _ _ us hl => match us, hl with | [_, _, _, _, _], _ => rfl⟩⟩⟩
  have G__law_value : FnX P w K mg base "_law_value" 11 ["_law_script", "_law_town_here", "_law_rows", "_law_marks", "_law_deep"] (spF K [.fz, .io, .io, .io, .fz] f__law_value .fz) := (R__law_value 8).1
  have G__law_tried_value : FnX P w K mg base "_law_tried_value" 11 ["_law_script", "_law_town_here", "_law_rows", "_law_marks", "_law_deep"] (spF K [.fz, .io, .io, .io, .fz] f__law_tried_value .fz) := (R__law_value 8).2.1
  have G__law_moved_value : FnX P w K mg base "_law_moved_value" 11 ["_law_script", "_law_town_here", "_law_rows", "_law_marks", "_law_deep"] (spF K [.fz, .io, .io, .io, .fz] f__law_moved_value .fz) := (R__law_value 8).2.2
  have R__law_deed : ∀ n : Nat, FnX P w K mg base "_law_deed" (11 + n) ["_law_script", "_law_town_here", "_law_rows", "_law_marks", "_law_deep"] (spF K [.fz, .io, .io, .io, .fz] (fR__law_deed n) .fz) ∧ FnX P w K mg base "_law_choice" (11 + n) ["_law_script", "_law_town_here", "_law_rows", "_law_marks", "_law_deep"] (spF K [.fz, .io, .io, .io, .fz] (fR__law_choice n) .fz) ∧ FnX P w K mg base "_law_round" (11 + n) ["_law_script", "_law_town_here", "_law_rows", "_law_marks", "_law_deep"] (spF K [.fz, .io, .io, .io, .fz] (fR__law_round n) .fz) ∧ FnX P w K mg base "_law_tried" (11 + n) ["_law_script", "_law_town_here", "_law_rows", "_law_marks", "_law_deep"] (spF K [.fz, .io, .io, .io, .fz] (fR__law_tried n) .fz) := by
    intro n
    induction n with
    | zero => exact ⟨fnX_none ⟨_, fd__law_deed, M__law_deed, F__law_deed.kp, F__law_deed.bindsN fun _ _ _ _ _ _ us hl => match us, hl with | [_, _, _, _, _], _ => rfl⟩ (fun _ => rfl), fnX_none ⟨_, fd__law_choice, M__law_choice, F__law_choice.kp, F__law_choice.bindsN fun _ _ _ _ _ _ us hl => match us, hl with | [_, _, _, _, _], _ => rfl⟩ (fun _ => rfl), fnX_none ⟨_, fd__law_round, M__law_round, F__law_round.kp, F__law_round.bindsN fun _ _ _ _ _ _ us hl => match us, hl with | [_, _, _, _, _], _ => rfl⟩ (fun _ => rfl), fnX_none ⟨_, fd__law_tried, M__law_tried, F__law_tried.kp, F__law_tried.bindsN fun _ _ _ _ _ _ us hl => match us, hl with | [_, _, _, _, _], _ => rfl⟩ (fun _ => rfl)⟩
    | succ n ih =>
      obtain ⟨h__law_deed, h__law_choice, h__law_round, h__law_tried⟩ := ih
      exact ⟨⟨⟨_, fd__law_deed, ok__law_deed (L := 11 + n) F__law_deed B C h__law_choice (G__law_draw.up (by omega)) (G__law_pick.up (by omega)) (G__law_put.up (by omega)) h__law_round h__law_tried (G__law_value.up (by omega)) (G1__law_put.up (by omega)), M__law_deed, F__law_deed.kp, F__law_deed.bindsN fun _ _ _ _ _ _ us hl => match us, hl with | [_, _, _, _, _], _ => rfl⟩⟩, ⟨⟨_, fd__law_choice, ok__law_choice (L := 11 + n) F__law_choice B C h__law_deed (G__law_draw.up (by omega)) (G__law_mark.up (by omega)) (G__law_pick.up (by omega)) (G__law_put.up (by omega)) (G__law_value.up (by omega)), M__law_choice, F__law_choice.kp, F__law_choice.bindsN fun _ _ _ _ _ _ us hl => match us, hl with | [_, _, _, _, _], _ => rfl⟩⟩, ⟨⟨_, fd__law_round, ok__law_round (L := 11 + n) F__law_round B C h__law_deed (G__law_mark.up (by omega)) (G__law_put.up (by omega)) (G__law_value.up (by omega)), M__law_round, F__law_round.kp, F__law_round.bindsN fun _ _ _ _ _ _ us hl => match us, hl with | [_, _, _, _, _], _ => rfl⟩⟩, ⟨⟨_, fd__law_tried, ok__law_tried (L := 11 + n) F__law_tried B C h__law_deed (G__law_mark.up (by omega)) (G__law_pick.up (by omega)) (G__law_put.up (by omega)) (G1__law_put.up (by omega)), M__law_tried, F__law_tried.kp, F__law_tried.bindsN fun _ _ _ _ _ _ us hl => match us, hl with | [_, _, _, _, _], _ => rfl⟩⟩⟩
  have G__law_deed : FnX P w K mg base "_law_deed" 19 ["_law_script", "_law_town_here", "_law_rows", "_law_marks", "_law_deep"] (spF K [.fz, .io, .io, .io, .fz] f__law_deed .fz) := (R__law_deed 8).1
  have G__law_choice : FnX P w K mg base "_law_choice" 19 ["_law_script", "_law_town_here", "_law_rows", "_law_marks", "_law_deep"] (spF K [.fz, .io, .io, .io, .fz] f__law_choice .fz) := (R__law_deed 8).2.1
  have G__law_round : FnX P w K mg base "_law_round" 19 ["_law_script", "_law_town_here", "_law_rows", "_law_marks", "_law_deep"] (spF K [.fz, .io, .io, .io, .fz] f__law_round .fz) := (R__law_deed 8).2.2.1
  have G__law_tried : FnX P w K mg base "_law_tried" 19 ["_law_script", "_law_town_here", "_law_rows", "_law_marks", "_law_deep"] (spF K [.fz, .io, .io, .io, .fz] f__law_tried .fz) := (R__law_deed 8).2.2.2
  have G__law_code : FnX P w K mg base "_law_code" 20 ["_law_script", "_law_town_here", "_law_many"] (spF K [.fz, .io, .fz] f__law_code .ow) := ⟨_, fd__law_code, ok__law_code F__law_code B C G__law_deed G__law_draw G__law_put G__law_value G1__law_put, M__law_code, F__law_code.kp, F__law_code.bindsN fun _ _ _ _ _ _ us hl => match us, hl with | [_, _, _], _ => rfl⟩
  have G__law_shown : FnX P w K mg base "_law_shown" 1 ["_law_thing"] (spF K [.fz] f__law_shown .fz) := ⟨_, fd__law_shown, ok__law_shown F__law_shown B C, M__law_shown, F__law_shown.kp, F__law_shown.bindsN fun _ _ _ _ _ _ us hl => match us, hl with | [_], _ => rfl⟩
  have G__law_line : FnX P w K mg base "_law_line" 1 ["_law_row"] (spF K [.fz] f__law_line .fz) := ⟨_, fd__law_line, ok__law_line F__law_line B C, M__law_line, F__law_line.kp, F__law_line.bindsN fun _ _ _ _ _ _ us hl => match us, hl with | [_], _ => rfl⟩
  exact ok_law F_law B C G__law_code G__law_line G__law_pick G__law_shown G__law_town G_code_text G_read_code
theorem law_sp {K : PySem.W.Frag} (hl : ∀ ns : List Int, ns.length ≤ 63 → ∃ o, f_law [some (.list (ns.map PyData.int))] = some (.bool true, o)) (H : Hp) (a : Addr) (ns : List Int) (hn : ns.length ≤ 63) (hT : ∀ P, P ∈ tabsOf K → LamX.TabS H P qU) (hS : SqL K H a (ns.map V.int)) : spF K [.fz] f_law .fz [.ref a] H (fun v _ => v = .bl true) fun _ _ _ => False := by
  obtain ⟨o, e⟩ := hl ns hn
  exact law_sp0 e hT hS
theorem no_tabs {w : World} {h : Heap} {K : PySem.W.Frag} (cx : He.SaysX fa fn ts [] exHB w h K) : tabsOf K = [] := by
  have hx0 : exHB K = true := cx.more
  unfold exHB at hx0
  have hx1 := (He.ba hx0).2
  have hx2 := (He.ba hx1).2
  have hx3 := (He.ba hx2).2
  have hx4 := (He.ba hx3).2
  have hx5 := (He.ba hx4).2
  have hx6 := (He.ba hx5).2
  have hx7 := (He.ba hx6).2
  have hx8 := (He.ba hx7).2
  have hx9 := (He.ba hx8).2
  have hx10 := (He.ba hx9).2
  have hx11 := (He.ba hx10).2
  exact of_decide_eq_true (He.ba hx11).1
end DL
open PySem PySem.W PySem.Calls PyProof.Rows
theorem PySem.Challenge.cw_codemill_k02_written_holds : PySem.Challenge.rw_codemill_k02_written.Holds := by
  w_on; o_law
  refine HandSHeadRun.head_any (r := OpenLaw.row PySem.Challenge.rw_codemill_k02_written) (q := view (OpenLaw.row PySem.Challenge.rw_codemill_k02_written).prog [49]) (H := DL.hk) (ob := DL.obX) (M := 12000) (loose := DL.loose) (d := HandSHeadRun.topDef (OpenLaw.row PySem.Challenge.rw_codemill_k02_written).prog 49) (kwd := []) DL.ob_eq
    (by kernel_rfl) (fun s => by kernel_rfl) DL.run (by kernel_rfl) (by kernel_rfl) (by kernel_rfl) (by rfl) (by first | assumption | decide +kernel) (by decide +kernel) ⟨rfl, rfl, rfl, rfl, rfl, by decide +kernel⟩ ?hw ?hc
  case hw => w_witness2
  case hc =>
    refine DL.walk_law (l := PySem.Challenge.rw_codemill_k02_written) (n := 63) (k := 21) (x := "_law_script") rfl (by decide) (by kernel_rfl) ⟨rfl, by decide, by decide⟩ fun w mg fa h Y G hmg0 => ?_
    obtain ⟨K, KX, c⟩ := Y
    have hn : (HandSHeadRun.topDef (OpenLaw.row PySem.Challenge.rw_codemill_k02_written).prog 49).name = ("law" : PySem.Str) := by kernel_rfl
    obtain ⟨fd, hb, hF⟩ := DL.facts (P := PySem.Challenge.rw_codemill_k02_written.prog) (w := w) KX G (by rw [← hn]; exact hmg0) c
    exact ⟨K, fd, _, KX, hb, fun H a ns hl hS => DL.law_sp DL.law_true H a ns hl (fun P hP => by rw [DL.no_tabs c] at hP; cases hP) hS, hF⟩
