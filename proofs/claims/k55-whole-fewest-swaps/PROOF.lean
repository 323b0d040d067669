import PyProof.Rows.All
import Wide.All
import OpenK.AllK
import Wide.FinOn
import HandS.ForMost
import HandS.ForExc
import HandS.IsInst
import HandS.Wide
import HandS.Flow
import HandS.Deep
import HandS.Zip
import HandS.HeadHook1
import HandS.Lambda
import HandS.Head0
import HandS.Head1
import HandS.Head2
import HandS.Words
import HandS.WordsExc
import HandS.HeadHook2
import HandS.HeadHook3
import HandS.HeadHook4
import KE.KTryMore
import KE.KIsAll
import HandS.Style
import HandS.TupAny
import HandS.Steps
import HandS.Walk
import HandS.NoneIn
import HandS.Defaults
import HandS.HeadEnd
import HandS.RevRange
import HandS.Zip0
import HandS.FStr
import HandS.More
import HandS.DictComp
import KE.KUnpackStar
import PyProof.MakeMany
import PyProof.FactsLen
import HandS.WordsDict
import HandS.Text
import HandS.Small
import PyProof.WalkInts
import HandS.TupSets
import HandS.SetTxt0
import HandS.SetFor
import KE.KDictCopyH
import KE.KDictOf
import KE.KDictDisplayH
import HandS.MakeKwOnly
import HandS.Exc
import HandS.ExcOwn
import HandS.ExcIs
import PyProof.ExcBaseAll.RuntimeError
import HandS.Conv
import KE.KDictList
import HandS.EndTab
import HandS.Iter
import PySem.Challenge.RW_codemill_k55_whole_fewest_swaps
set_option Elab.async false
set_option linter.all false
set_option maxRecDepth 100000
set_option maxHeartbeats 0
set_option autoImplicit false
namespace DL
open PySem PySem.Spec PyProof.Rows L2
abbrev D := PyData
abbrev En := List (Option D)
inductive Kd where
  | fz | ow | io | lk | li
  /-- the object whose attributes stand ahead of it -/
  | cell (o : Nat) (c : Str) (as : List Str)
  deriving DecidableEq
def Kd.own : Kd → Bool
  | .fz => false
  | .cell _ _ _ => false
  | _ => true
def Kd.pin : Kd → Bool
  | .io => true
  | .lk => true
  | .li => true
  | _ => false
def Kd.lock : Kd → Bool
  | .lk => true
  | .li => true
  | _ => false
theorem Kd.pin_of {k : Kd} (h : k.lock = true) : k.pin = true := by
  cases k <;> first | rfl | cases h
theorem Kd.own_of {k : Kd} (h : k.lock = true) : k.own = true := by
  cases k <;> first | rfl | cases h
inductive Ak where
  | fz | ow | br (i : Nat)
  deriving DecidableEq
def kD : Key → D
  | .inl i => .int i
  | .inr x => .str x
def KeysOk (as : List Str) (fs : List (Str × V)) : Prop := (fs.map (·.1)).Nodup ∧ ∀ f, f ∈ fs.map (·.1) → f ∈ as
def keysS (r : List (D × D)) : List Str := r.filterMap fun p => match p.1 with
  | .str s => some s
  | _ => none
def noOb : List (D × D) → Bool
  | (.none, _) :: _ => false
  | _ => true
def qU : Str := "Units.__init__.<locals>.<lambda>"
def ObO (a : Addr) (o : Obj) : HO := .ext fun h => h.get? a = some o
def tabO (o : Obj) : Option Addr := match o with
  | ⟨.type "code", _, .fields vs, _⟩ => (match (vs[1]? : Option Value), (vs[11]? : Option Value) with
    | some (.str q _), some (.ref P) => if q = ("Units.__init__" : Str) then some P else none
    | _, _ => none)
  | _ => none
def tabsOf (K : PySem.W.Frag) : List Addr := K.filterMap fun p => tabO p.2
def lamIn : Stmt → Option (Arguments × Expr × Scope)
  | .If (.BoolOp _ (.UnaryOp _ (.Call _ [_, .Lambda ps b sc _] _ _) _ :: _) _) _ _ _ => some (ps, b, sc)
  | .If (.UnaryOp _ (.Call _ [_, .Lambda ps b sc _] _ _) _) _ _ _ => some (ps, b, sc)
  | _ => none
def initO (o : Obj) : Option (List Stmt) := match o.data with
  | .func fd => if fd.qualname = ("Units.__init__" : Str) then (match fd.body with
    | .stmts b => some b
    | _ => none) else none
  | _ => none
def lamOf (K : PySem.W.Frag) (n : Nat) : Option (Arguments × Expr × Scope) := ((K.lookup (He.ma K (He.ga K "Units") "__init__")).bind initO).bind fun b => (b.filterMap lamIn)[n]?
def fnName (n : Int) : Str := if n = -1 then "is_name" else "is_line"
def FnR (K : PySem.W.Frag) (F : Hp) (n : Int) (f : Addr) (cl : List (Str × Addr)) : Prop :=
  (0 ≤ n ∧ ∃ ps b sc pm c' ctv, lamOf K n.toNat = some (ps, b, sc) ∧ F f = some (ObO f (PySem.W.kla_obj "<lambda>" qU ps b sc cl pm c' ctv)) ∧ F c' = some (LamX.CodeO c' qU) ∧ ∀ x y c, cl.lookup x = some c → cl.lookup y = some c → x = y) ∨
  (n < 0 ∧ cl = [] ∧ f = He.ga K (fnName n))
theorem FnR.mono {K : PySem.W.Frag} {F F' : Hp} (e : Same F F') {n : Int} {f : Addr} {cl : List (Str × Addr)} (h : FnR K F n f cl) : FnR K F' n f cl := by
  rcases h with ⟨h0, ps, b, sc, pm, c', ctv, h1, h2, h3, h4⟩ | h
  · exact .inl ⟨h0, ps, b, sc, pm, c', ctv, h1, e _ _ h2, e _ _ h3, h4⟩
  · exact .inr h
def KH (o : HO) (x : Option HO) : Prop := match o with
  | .tbl _ => ∃ ps, x = some (.tbl ps)
  | o => x = some o
theorem KH.of {o : HO} {x : Option HO} (h : x = some o) : KH o x := by
  cases o <;> first | exact h | exact ⟨_, h⟩
theorem KH.ex {o : HO} {x : Option HO} (h : KH o x) : ∃ o', x = some o' := by
  cases o <;> first | exact ⟨_, h⟩ | (obtain ⟨ps, h⟩ := h; exact ⟨_, h⟩)
theorem KH.nn {o : HO} {x : Option HO} (h : KH o x) : x ≠ none := by
  obtain ⟨o', e⟩ := h.ex
  rw [e]
  exact fun z => by cases z
theorem KH.trans {o : HO} {x y : Option HO} (h : KH o x) (g : ∀ o', x = some o' → KH o' y) : KH o y := by
  cases o <;> first | exact g _ h | (obtain ⟨ps, h⟩ := h; have z : KH (.tbl ps) y := g _ h; exact z)
theorem KH.nt {o : HO} {x : Option HO} (n : (∀ ps, o ≠ .tbl ps) ∧ ∀ φ, o ≠ .ext φ) (h : KH o x) : x = some o := by
  cases o <;> first | exact h | exact (n.1 _ rfl).elim
structure SameK (H H' : Hp) : Prop where
  kh : ∀ b o, H b = some o → KH o (H' b)
  tb : ∀ P, LamX.TabS H P qU → LamX.TabS H' P qU
theorem SameK.of {H H' : Hp} (h : Same H H') : SameK H H' := ⟨fun b o e => .of (h b o e), fun _ t => t.ext h⟩
theorem SameK.refl (H : Hp) : SameK H H := .of (.refl _)
theorem SameK.trans {H H1 H2 : Hp} (a : SameK H H1) (b : SameK H1 H2) : SameK H H2 := ⟨fun c o e => (a.kh c o e).trans fun o' z => b.kh c o' z, fun P t => b.tb P (a.tb P t)⟩
mutual
def Rp (K : PySem.W.Frag) (F : Hp) : D → V → Prop
  | .none, v => v = .non
  | .bool b, v => v = .bl b
  | .int i, v => v = .int i
  | .str x, v => v = .str x
  | .list ds, v => ∃ a xs, v = .ref a ∧ SqL K F a xs ∧ RpA K F ds xs
  | .tuple ds, v => ∃ a xs, v = .ref a ∧ SqT K F a xs ∧ RpA K F ds xs
  | .dict kvs, v => (∃ a vs, v = .ref a ∧ Rd F a (.dK vs) ∧ RpD K F kvs vs) ∨ RpO K F kvs v
def RpO (K : PySem.W.Frag) (F : Hp) : List (D × D) → V → Prop
  | [], _ => False
  | (k, d) :: r, v => k = .none ∧ ((∃ c x dx fs, d = .str c ∧ v = .ref x ∧ F x = some (.ins (He.ga K c) dx fs) ∧ RpF K F r fs ∧ KeysOk (keysS r) fs) ∨
    ∃ n f cl, d = .int n ∧ v = .ref f ∧ FnR K F n f cl ∧ RpC K F r cl)
def RpC (K : PySem.W.Frag) (F : Hp) : List (D × D) → List (Str × Addr) → Prop
  | [], cl => cl = []
  | (k, d) :: r, cl => ∃ y c o u v cr, cl = (y, c) :: cr ∧ k = .str y ∧ F c = some (ObO c o) ∧ o.data = .cell (some u) ∧ RelV v u ∧ Rp K F d v ∧ RpC K F r cr
def RpF (K : PySem.W.Frag) (F : Hp) : List (D × D) → List (Str × V) → Prop
  | [], _ => True
  | (k, d) :: r, fs => (∃ s v, k = .str s ∧ fs.lookup s = some v ∧ Rp K F d v) ∧ RpF K F r fs
def RpA (K : PySem.W.Frag) (F : Hp) : List D → List V → Prop
  | [], xs => xs = []
  | d :: ds, xs => ∃ v vs, xs = v :: vs ∧ Rp K F d v ∧ RpA K F ds vs
def RpD (K : PySem.W.Frag) (F : Hp) : List (D × D) → List (Key × V) → Prop
  | [], vs => vs = []
  | (k, d) :: r, vs => ∃ q v vr, vs = (q, v) :: vr ∧ k = kD q ∧ Rp K F d v ∧ RpD K F r vr
end
theorem same_rd {F F' : Hp} (e : Same F F') {a : Addr} {o : HO} (h : Rd F a o) : Rd F' a o := by
  rcases h with h | ⟨u, h⟩
  · exact .inl (e _ _ h)
  · exact .inr ⟨u, e _ _ h⟩
theorem same_sqt {K : PySem.W.Frag} {F F' : Hp} (e : Same F F') {a : Addr} {xs : List V} (h : SqT K F a xs) : SqT K F' a xs := by
  rcases h with h | h
  · exact .inl (same_rd e h)
  · exact .inr h
mutual
theorem Rp.mono {K : PySem.W.Frag} {F F' : Hp} (e : Same F F') : ∀ (d : D) (v : V), Rp K F d v → Rp K F' d v
  | .none, _, h => h
  | .bool _, _, h => h
  | .int _, _, h => h
  | .str _, _, h => h
  | .list ds, _, h => by
    obtain ⟨a, xs, h1, h2, h3⟩ := h
    exact ⟨a, xs, h1, e.seq h2, RpA.mono e ds xs h3⟩
  | .tuple ds, _, h => by
    obtain ⟨a, xs, h1, h2, h3⟩ := h
    exact ⟨a, xs, h1, same_sqt e h2, RpA.mono e ds xs h3⟩
  | .dict kvs, v, h => by
    rcases h with ⟨a, vs, h1, h2, h3⟩ | h
    · exact .inl ⟨a, vs, h1, same_rd e h2, RpD.mono e kvs vs h3⟩
    · exact .inr (RpO.mono e kvs v h)
theorem RpO.mono {K : PySem.W.Frag} {F F' : Hp} (e : Same F F') : ∀ (r : List (D × D)) (v : V), RpO K F r v → RpO K F' r v
  | [], _, h => h
  | (k, d) :: r, v, h => by
    obtain ⟨h0, ⟨c, x, dx, fs, h1, h2, h3, h5, h6⟩ | ⟨n, f, cl, h1, h2, h3, h4⟩⟩ := h
    · exact ⟨h0, .inl ⟨c, x, dx, fs, h1, h2, e _ _ h3, RpF.mono e r fs h5, h6⟩⟩
    · exact ⟨h0, .inr ⟨n, f, cl, h1, h2, h3.mono e, RpC.mono e r cl h4⟩⟩
theorem RpC.mono {K : PySem.W.Frag} {F F' : Hp} (e : Same F F') : ∀ (r : List (D × D)) (cl : List (Str × Addr)), RpC K F r cl → RpC K F' r cl
  | [], _, h => h
  | (k, d) :: r, cl, h => by
    obtain ⟨y, c, o, u, v, cr, h1, h2, h3, h4, h5, h6, h7⟩ := h
    exact ⟨y, c, o, u, v, cr, h1, h2, e _ _ h3, h4, h5, Rp.mono e d v h6, RpC.mono e r cr h7⟩
theorem RpF.mono {K : PySem.W.Frag} {F F' : Hp} (e : Same F F') : ∀ (r : List (D × D)) (fs : List (Str × V)), RpF K F r fs → RpF K F' r fs
  | [], _, h => h
  | (k, d) :: r, fs, h => by
    obtain ⟨⟨s, v, h1, h2, h3⟩, h4⟩ := h
    exact ⟨⟨s, v, h1, h2, Rp.mono e d v h3⟩, RpF.mono e r fs h4⟩
theorem RpA.mono {K : PySem.W.Frag} {F F' : Hp} (e : Same F F') : ∀ (ds : List D) (vs : List V), RpA K F ds vs → RpA K F' ds vs
  | [], _, h => h
  | d :: ds, _, h => by
    obtain ⟨v, vs, h1, h2, h3⟩ := h
    exact ⟨v, vs, h1, Rp.mono e d v h2, RpA.mono e ds vs h3⟩
theorem RpD.mono {K : PySem.W.Frag} {F F' : Hp} (e : Same F F') : ∀ (ds : List (D × D)) (vs : List (Key × V)), RpD K F ds vs → RpD K F' ds vs
  | [], _, h => h
  | (k, d) :: r, _, h => by
    obtain ⟨q, v, vr, h1, h2, h3, h4⟩ := h
    exact ⟨q, v, vr, h1, h2, Rp.mono e d v h3, RpD.mono e r vr h4⟩
end
theorem RpO.ob {K : PySem.W.Frag} {F : Hp} {r : List (D × D)} {v : V} (h : RpO K F r v) : noOb r = false := by
  cases r with
  | nil => cases h
  | cons p r =>
    obtain ⟨k, d⟩ := p
    obtain ⟨h0, _⟩ := h
    subst h0
    rfl
def gob {α : Type} (kvs : List (D × D)) (o : Option α) : Option α := match noOb kvs with
  | true => o
  | false => none
theorem gob_some {α : Type} {kvs : List (D × D)} {o : Option α} {z : α} (h : gob kvs o = some z) : noOb kvs = true ∧ o = some z := by
  unfold gob at h
  split at h
  · rename_i e
    exact ⟨e, h⟩
  · cases h
theorem gob_ok {α : Type} {kvs : List (D × D)} {o : Option α} (h : noOb kvs = true) : gob kvs o = o := by
  unfold gob
  rw [h]
theorem noRpO {K : PySem.W.Frag} {F : Hp} {r : List (D × D)} {v : V} {P : Prop} (n : noOb r = true) (h : P ∨ RpO K F r v) : P := h.resolve_right fun z => by
  rw [z.ob] at n
  cases n
theorem RpO.ref {K : PySem.W.Frag} {F : Hp} {r : List (D × D)} {v : V} (h : RpO K F r v) : ∃ a, v = .ref a := by
  cases r with
  | nil => cases h
  | cons p r =>
    obtain ⟨k, d⟩ := p
    obtain ⟨_, ⟨c, x, dx, fs, _, h2, _⟩ | ⟨n, f, cl, _, h2, _⟩⟩ := h
    · exact ⟨x, h2⟩
    · exact ⟨f, h2⟩
section
variable {K : PySem.W.Frag} {F : Hp}
theorem RpA.length : ∀ {ds : List D} {vs : List V}, RpA K F ds vs → vs.length = ds.length
  | [], _, h => by
    have h : _ = [] := h
    rw [h]
    rfl
  | d :: ds, _, h => by
    obtain ⟨v, vs, h1, h2, h3⟩ := h
    rw [h1, List.length_cons, List.length_cons, RpA.length h3]
theorem RpA.nil : RpA K F [] [] := rfl
theorem RpA.cons {d : D} {v : V} {ds : List D} {vs : List V} (h : Rp K F d v) (t : RpA K F ds vs) : RpA K F (d :: ds) (v :: vs) := ⟨v, vs, rfl, h, t⟩
theorem RpA.append : ∀ {ds es : List D} {vs us : List V}, RpA K F ds vs → RpA K F es us → RpA K F (ds ++ es) (vs ++ us)
  | [], es, vs, us, h, g => by
    have h : vs = [] := h
    rw [h]
    exact g
  | d :: ds, es, _, us, h, g => by
    obtain ⟨v, vs, h1, h2, h3⟩ := h
    rw [h1]
    exact .cons h2 (RpA.append h3 g)
theorem RpA.get : ∀ {ds : List D} {vs : List V} {i : Nat} {d : D}, RpA K F ds vs → ds[i]? = some d → ∃ v, vs[i]? = some v ∧ Rp K F d v
  | [], _, _, _, _, e => by simp at e
  | d :: ds, _, 0, d', h, e => by
    obtain ⟨v, vs, h1, h2, h3⟩ := h
    have e : d = d' := by simpa using e
    subst e h1
    exact ⟨v, rfl, h2⟩
  | d :: ds, _, i + 1, d', h, e => by
    obtain ⟨v, vs, h1, h2, h3⟩ := h
    subst h1
    obtain ⟨u, q1, q2⟩ := RpA.get (i := i) (d := d') h3 (by simpa using e)
    exact ⟨u, by simpa using q1, q2⟩
theorem RpA.getV {ds : List D} {vs : List V} {i : Nat} {v : V} (h : RpA K F ds vs) (e : vs[i]? = some v) : ∃ d, ds[i]? = some d ∧ Rp K F d v := by
  have hl := h.length
  have hi : i < ds.length := by
    have := (List.getElem?_eq_some_iff.mp e).1
    omega
  obtain ⟨u, q1, q2⟩ := h.get (List.getElem?_eq_getElem hi)
  rw [e] at q1
  cases q1
  exact ⟨_, List.getElem?_eq_getElem hi, q2⟩
theorem RpA.set {d : D} {v : V} (g : Rp K F d v) : ∀ {ds : List D} {vs : List V} (i : Nat), RpA K F ds vs → RpA K F (ds.set i d) (vs.set i v)
  | [], vs, i, h => by
    have h : vs = [] := h
    rw [h]
    exact rfl
  | _ :: ds, _, 0, h => by
    obtain ⟨v, vs, h1, h2, h3⟩ := h
    rw [h1]
    exact .cons g h3
  | _ :: ds, _, i + 1, h => by
    obtain ⟨v, vs, h1, h2, h3⟩ := h
    rw [h1]
    exact .cons h2 (RpA.set g i h3)
theorem RpA.take : ∀ {ds : List D} {vs : List V} (n : Nat), RpA K F ds vs → RpA K F (ds.take n) (vs.take n)
  | [], vs, n, h => by
    have h : vs = [] := h
    rw [h, List.take_nil, List.take_nil]
    exact rfl
  | d :: ds, _, 0, h => by
    rw [List.take_zero, List.take_zero]
    exact rfl
  | d :: ds, _, n + 1, h => by
    obtain ⟨v, vs, h1, h2, h3⟩ := h
    rw [h1]
    exact .cons h2 (RpA.take n h3)
theorem RpA.drop : ∀ {ds : List D} {vs : List V} (n : Nat), RpA K F ds vs → RpA K F (ds.drop n) (vs.drop n)
  | [], vs, n, h => by
    have h : vs = [] := h
    rw [h, List.drop_nil, List.drop_nil]
    exact rfl
  | d :: ds, _, 0, h => h
  | d :: ds, _, n + 1, h => by
    obtain ⟨v, vs, h1, h2, h3⟩ := h
    rw [h1]
    exact RpA.drop n h3
theorem RpA.reverse : ∀ {ds : List D} {vs : List V}, RpA K F ds vs → RpA K F ds.reverse vs.reverse
  | [], vs, h => by
    have h : vs = [] := h
    rw [h]
    exact rfl
  | d :: ds, _, h => by
    obtain ⟨v, vs, h1, h2, h3⟩ := h
    rw [h1, List.reverse_cons, List.reverse_cons]
    exact (RpA.reverse h3).append (.cons h2 .nil)
theorem RpA.one {d : D} {vs : List V} (h : RpA K F [d] vs) : ∃ v, vs = [v] ∧ Rp K F d v := by
  obtain ⟨v, vs, h1, h2, h3⟩ := h
  have h3 : vs = [] := h3
  rw [h3] at h1
  exact ⟨v, h1, h2⟩
theorem RpA.two {d e : D} {vs : List V} (h : RpA K F [d, e] vs) : ∃ v u, vs = [v, u] ∧ Rp K F d v ∧ Rp K F e u := by
  obtain ⟨v, vs, h1, h2, h3⟩ := h
  obtain ⟨u, rfl, h4⟩ := h3.one
  exact ⟨v, u, h1, h2, h4⟩
end
def OwnC (K : PySem.W.Frag) (F : Hp) (o : HO) : D → Prop
  | .list ds => ∃ xs, o = .lst xs ∧ RpA K F ds xs
  | .dict kvs => ∃ vs, o = .dK vs ∧ RpD K F kvs vs
  | _ => False
def OwnO (K : PySem.W.Frag) (F H : Hp) (p : Addr) (d : D) : Prop := ∃ o, H p = some o ∧ OwnC K F o d
theorem OwnC.mono {K : PySem.W.Frag} {F F' : Hp} (e : Same F F') {o : HO} : ∀ {d : D}, OwnC K F o d → OwnC K F' o d
  | .none, h => h
  | .bool _, h => h
  | .int _, h => h
  | .str _, h => h
  | .tuple _, h => h
  | .list ds, ⟨xs, h1, h2⟩ => ⟨xs, h1, h2.mono e⟩
  | .dict kvs, ⟨xs, h1, h2⟩ => ⟨xs, h1, h2.mono e⟩
theorem OwnC.kh {K : PySem.W.Frag} {F : Hp} {o : HO} {x : Option HO} : ∀ {d : D}, OwnC K F o d → KH o x → x = some o
  | .none, h, _ => h.elim
  | .bool _, h, _ => h.elim
  | .int _, h, _ => h.elim
  | .str _, h, _ => h.elim
  | .tuple _, h, _ => h.elim
  | .list ds, ⟨xs, h1, h2⟩, g => by
    subst h1
    exact g
  | .dict kvs, ⟨xs, h1, h2⟩, g => by
    subst h1
    exact g
theorem OwnC.nt {K : PySem.W.Frag} {F : Hp} {o : HO} : ∀ {d : D}, OwnC K F o d → (∀ ps, o ≠ .tbl ps) ∧ ∀ φ, o ≠ .ext φ
  | .none, h => h.elim
  | .bool _, h => h.elim
  | .int _, h => h.elim
  | .str _, h => h.elim
  | .tuple _, h => h.elim
  | .list ds, ⟨xs, h1, h2⟩ => by
    subst h1
    exact ⟨fun _ z => (by cases z), fun _ z => (by cases z)⟩
  | .dict kvs, ⟨xs, h1, h2⟩ => by
    subst h1
    exact ⟨fun _ z => (by cases z), fun _ z => (by cases z)⟩
theorem OwnO.mono {K : PySem.W.Frag} {F F' H H' : Hp} {p : Addr} {d : D} (e : Same F F') (h : OwnO K F H p d) (k : ∀ o, H p = some o → H' p = some o) : OwnO K F' H' p d := by
  obtain ⟨o, h1, h2⟩ := h
  exact ⟨o, k o h1, h2.mono e⟩
theorem OwnC.rp {K : PySem.W.Frag} {F : Hp} {p : Addr} {o : HO} (hp : F p = some o) : ∀ {d : D}, OwnC K F o d → Rp K F d (.ref p)
  | .none, h => h.elim
  | .bool _, h => h.elim
  | .int _, h => h.elim
  | .str _, h => h.elim
  | .tuple _, h => h.elim
  | .list ds, ⟨xs, h1, h2⟩ => ⟨p, xs, rfl, .inl (.inl (by rw [hp, h1])), h2⟩
  | .dict kvs, ⟨xs, h1, h2⟩ => .inl ⟨p, xs, rfl, .inl (by rw [hp, h1]), h2⟩
structure Wd where
  F : Hp
  H : Hp
  σ : L2.St
  ρ : En
def ats (O : List Kd) : List Str := match O.getLast? with
  | some (.cell _ _ as) => as
  | _ => []
def hasO (O : List Kd) : Bool := match O.getLast? with
  | some (.cell _ _ _) => true
  | _ => false
def nl (O : List Kd) : Nat := if hasO O = true then O.length - (ats O).length - 1 else O.length
def attrs (H : Hp) (p : Addr) : List (Str × V) := match H p with
  | some (.ins _ _ fs) => fs
  | _ => []
def oi (O : List Kd) : Nat := match O.getLast? with
  | some (.cell o _ _) => o
  | _ => 0
def cn (O : List Kd) : Str := match O.getLast? with
  | some (.cell _ c _) => c
  | _ => Str.empty
def ob (O : List Kd) (σ : L2.St) : Addr := match σ[oi O]? with
  | some (some (V.ref p)) => p
  | _ => (0 : Nat)
def sv (O : List Kd) (H : Hp) (σ : L2.St) (i : Nat) : Option (Option V) := if i < nl O then σ[i]? else match (ats O)[i - nl O]? with
  | some a => some ((attrs H (ob O σ)).lookup a)
  | none => none
abbrev Wd.sv (w : Wd) (O : List Kd) (i : Nat) : Option (Option V) := DL.sv O w.H w.σ i
theorem sv_loc {O : List Kd} {H : Hp} {σ : L2.St} {i : Nat} (h : i < nl O) : sv O H σ i = σ[i]? := if_pos h
def OwnAt (O : List Kd) (w : Wd) (i : Nat) (p : Addr) : Prop := ∃ (k : Kd) (d : D), O[i]? = some k ∧ k.own = true ∧ w.ρ[i]? = some (some d) ∧ w.sv O i = some (some (.ref p))
def Fp (O : List Kd) (w : Wd) (p : Addr) : Prop := ∃ i, OwnAt O w i p
structure ObOk (K : PySem.W.Frag) (O : List Kd) (w : Wd) : Prop where
  at0 : w.σ[oi O]? = some (some (.ref (ob O w.σ)))
  n0 : oi O < nl O
  ex : ∃ C dx fs, w.H (ob O w.σ) = some (.ins C dx fs) ∧ w.H dx = some (.own (ob O w.σ))
  fr : w.F (ob O w.σ) = none
  nf : ¬ Fp O w (ob O w.σ)
  cls : ∀ C dx fs, w.H (ob O w.σ) = some (.ins C dx fs) → C = He.ga K (cn O) ∧ KeysOk (ats O) fs
structure Ok (K : PySem.W.Frag) (O : List Kd) (w : Wd) : Prop where
  sub : Same w.F w.H
  ls : w.σ.length = nl O
  lr : w.ρ.length = O.length
  fz : ∀ (i : Nat) (d : D), O[i]? = some Kd.fz → w.ρ[i]? = some (some d) → ∃ v : V, w.sv O i = some (some v) ∧ Rp K w.F d v
  ow : ∀ (i : Nat) (k : Kd) (d : D), O[i]? = some k → k.own = true → w.ρ[i]? = some (some d) → ∃ p : Addr, w.sv O i = some (some (.ref p)) ∧ w.F p = none ∧ OwnO K w.F w.H p d
  ap : ∀ i j p, OwnAt O w i p → OwnAt O w j p → i = j
  obj : hasO O = true → ObOk K O w
  tb : ∀ P, P ∈ tabsOf K → LamX.TabS w.H P qU ∧ w.F P = none
structure StpS (O : List Kd) (w w' : Wd) : Prop where
  ex : Same w.F w'.F
  kp : ∀ b o, w.H b = some o → ¬ Fp O w b → (hasO O = true → b ≠ ob O w.σ) → KH o (w'.H b)
  nw : ∀ b o, w.H b = some o → ¬ Fp O w b → w.F b = none → w'.F b = none
  fp : ∀ b, Fp O w' b → Fp O w b ∨ w.H b = none
  pn : ∀ (i : Nat) (k : Kd), O[i]? = some k → k.pin = true → w'.sv O i = w.sv O i
  lk : ∀ (i : Nat) (k : Kd), O[i]? = some k → k.lock = true → w'.ρ[i]? = w.ρ[i]?
  lo : ∀ (i : Nat) (k : Kd) (p : Addr) (d : D), O[i]? = some k → k.lock = true → w.ρ[i]? = some (some d) → w.sv O i = some (some (.ref p)) → w'.H p = w.H p
  o0 : hasO O = true → ob O w'.σ = ob O w.σ ∧ (w.H (ob O w.σ) ≠ none → w'.H (ob O w.σ) ≠ none)
  tb : ∀ P, LamX.TabS w.H P qU → LamX.TabS w'.H P qU
structure Stp (O : List Kd) (w w' : Wd) : Prop extends StpS O w w' where
  ost : hasO O = true → w'.H (ob O w.σ) = w.H (ob O w.σ)
instance {O : List Kd} {w w' : Wd} : Coe (Stp O w w') (StpS O w w') := ⟨Stp.toStpS⟩
def Rs (K : PySem.W.Frag) (O : List Kd) (w w' : Wd) (k : Ak) (d : D) (v : V) : Prop := match k with
  | .fz => Rp K w'.F d v
  | .ow => ∃ p : Addr, v = .ref p ∧ w'.F p = none ∧ OwnO K w'.F w'.H p d ∧ ¬ Fp O w' p ∧ (Fp O w p ∨ w.H p = none) ∧ (hasO O = true → p ≠ ob O w'.σ)
  | .br i => w'.sv O i = some (some v) ∧ ∃ q : Kd, O[i]? = some q ∧ q.own = true
section
variable {K : PySem.W.Frag} {O : List Kd} {w w1 w2 : Wd}
theorem Ok.ownF (ok : Ok K O w) {p : Addr} (h : Fp O w p) : w.F p = none ∧ ∃ o, w.H p = some o := by
  obtain ⟨i, k, d, h1, h2, h3, h4⟩ := h
  obtain ⟨q, e1, e2, o, e3, e4⟩ := ok.ow i k d h1 h2 h3
  rw [h4] at e1
  cases e1
  exact ⟨e2, o, e3⟩
theorem Ok.ownN (ok : Ok K O w) {p : Addr} (h : Fp O w p) : ∃ o, w.H p = some o ∧ ((∀ ps, o ≠ .tbl ps) ∧ ∀ φ, o ≠ .ext φ) := by
  obtain ⟨i, k, d, h1, h2, h3, h4⟩ := h
  obtain ⟨q, e1, e2, o, e3, e4⟩ := ok.ow i k d h1 h2 h3
  rw [h4] at e1
  cases e1
  exact ⟨o, e3, e4.nt⟩
theorem Stp.refl (O : List Kd) (w : Wd) : Stp O w w := ⟨⟨Same.refl _, fun _ _ h _ _ => .of h, fun _ _ _ _ h => h, fun _ h => .inl h, fun _ _ _ _ => rfl, fun _ _ _ _ => rfl, fun _ _ _ _ _ _ _ _ => rfl, fun _ => ⟨rfl, id⟩, fun _ h => h⟩, fun _ => rfl⟩
theorem StpS.refl (O : List Kd) (w : Wd) : StpS O w w := (Stp.refl O w).toStpS
theorem Stp.kp' (a : Stp O w w1) {b : Addr} {o : HO} (h : w.H b = some o) (z : ¬ Fp O w b) : KH o (w1.H b) := by
  by_cases e : hasO O = true ∧ b = ob O w.σ
  · obtain ⟨e1, e2⟩ := e
    subst e2
    rw [a.ost e1]
    exact .of h
  · exact a.kp b o h z fun e1 e2 => e ⟨e1, e2⟩
theorem StpS.back (a : StpS O w w1) {b : Addr} (h : w1.H b = none) : Fp O w b ∨ w.H b = none := by
  cases e : w.H b with
  | none => exact .inr rfl
  | some o =>
    refine .inl (Classical.byContradiction fun z => ?_)
    by_cases e2 : hasO O = true ∧ b = ob O w.σ
    · obtain ⟨e1, e2⟩ := e2
      subst e2
      exact (a.o0 e1).2 (by rw [e]; exact fun z => by cases z) h
    · exact ((a.kp b o e z fun e1 e3 => e2 ⟨e1, e3⟩).nn h).elim
theorem StpS.nofp (a : StpS O w w1) {b : Addr} {o : HO} (h : w.H b = some o) (z : ¬ Fp O w b) : ¬ Fp O w1 b := fun q => by
  rcases a.fp b q with q | q
  · exact z q
  · rw [h] at q
    cases q
theorem StpS.trans (a : StpS O w w1) (b : StpS O w1 w2) : StpS O w w2 where
  ex := a.ex.trans b.ex
  kp := fun c o h z y => (a.kp c o h z y).trans fun o' h' => b.kp c o' h' (a.nofp h z) fun e => by rw [(a.o0 e).1]; exact y e
  nw := fun c o h z f => by
    have f1 := a.nw c o h z f
    cases e : w1.H c with
    | none =>
      exact (Classical.byContradiction fun y => by
        rcases a.back e with q | q
        · exact z q
        · rw [h] at q
          cases q)
    | some o1 => exact b.nw c o1 e (a.nofp h z) f1
  fp := fun c h => by
    rcases b.fp c h with h | h
    · exact a.fp c h
    · exact a.back h
  pn := fun i k h1 h2 => (b.pn i k h1 h2).trans (a.pn i k h1 h2)
  lk := fun i k h1 h2 => (b.lk i k h1 h2).trans (a.lk i k h1 h2)
  lo := fun i k p d h1 h2 h3 h4 => (b.lo i k p d h1 h2 ((a.lk i k h1 h2).trans h3) ((a.pn i k h1 (Kd.pin_of h2)).trans h4)).trans (a.lo i k p d h1 h2 h3 h4)
  o0 := fun e => by
    obtain ⟨a1, a2⟩ := a.o0 e
    obtain ⟨b1, b2⟩ := b.o0 e
    rw [a1] at b1 b2
    exact ⟨b1, fun z => b2 (a2 z)⟩
  tb := fun P h => b.tb P (a.tb P h)
theorem Stp.trans (a : Stp O w w1) (b : Stp O w1 w2) : Stp O w w2 := ⟨a.toStpS.trans b.toStpS, fun e => by
  have z := b.ost e
  rw [(a.o0 e).1] at z
  exact z.trans (a.ost e)⟩
theorem Stp.back (a : Stp O w w1) {b : Addr} (h : w1.H b = none) : Fp O w b ∨ w.H b = none := a.toStpS.back h
theorem Stp.nofp (a : Stp O w w1) {b : Addr} {o : HO} (h : w.H b = some o) (z : ¬ Fp O w b) : ¬ Fp O w1 b := a.toStpS.nofp h z
theorem sv_same {H H' : Hp} {σ : L2.St} {i : Nat} (h : hasO O = true → H' (ob O σ) = H (ob O σ)) : sv O H' σ i = sv O H σ i := by
  unfold sv
  split
  · rfl
  · rename_i z
    cases e : hasO O with
    | false =>
      have : ats O = [] := by
        unfold hasO at e
        unfold ats
        split at e
        · cases e
        · first
            | rfl
            | (rename_i y
               split
               · rename_i _ _ as e2
                 exact (y _ _ as e2).elim
               · rfl)
      rw [this]
      rfl
    | true =>
      unfold attrs
      rw [h e]
theorem own_same {F F' H H' : Hp} {σ : L2.St} {ρ : En} {i : Nat} {b : Addr} (h : hasO O = true → H' (ob O σ) = H (ob O σ)) : OwnAt O ⟨F', H', σ, ρ⟩ i b ↔ OwnAt O ⟨F, H, σ, ρ⟩ i b := by
  show (∃ k d, _ ∧ _ ∧ _ ∧ sv O H' σ i = _) ↔ ∃ k d, _ ∧ _ ∧ _ ∧ sv O H σ i = _
  rw [sv_same h]
theorem fp_same {F F' H H' : Hp} {σ : L2.St} {ρ : En} {b : Addr} (h : hasO O = true → H' (ob O σ) = H (ob O σ)) : Fp O ⟨F', H', σ, ρ⟩ b ↔ Fp O ⟨F, H, σ, ρ⟩ b :=
  ⟨fun ⟨i, z⟩ => ⟨i, (own_same h).mp z⟩, fun ⟨i, z⟩ => ⟨i, (own_same h).mpr z⟩⟩
theorem ob_set {σ : L2.St} {i : Nat} {x : Option V} (h : i ≠ oi O) : ob O (σ.set i x) = ob O σ := by
  unfold ob
  rw [List.getElem?_set_ne h]
theorem no_ats (h : hasO O = false) : ats O = [] := by
  unfold hasO at h
  unfold ats
  split at h
  · cases h
  · first
      | rfl
      | (rename_i y
         split
         · rename_i _ _ as e2
           exact (y _ _ as e2).elim
         · rfl)
theorem sv_ob {H : Hp} {σ σ' : L2.St} {j : Nat} (h : hasO O = false ∨ ob O σ' = ob O σ) (hj : ¬ j < nl O) : sv O H σ' j = sv O H σ j := by
  unfold sv
  rw [if_neg hj, if_neg hj]
  rcases h with h | h
  · rw [no_ats h]
    rfl
  · rw [h]
theorem sv_set_ne {H : Hp} {σ : L2.St} {i j : Nat} {x : Option V} (h0 : hasO O = false ∨ i ≠ oi O) (e : i ≠ j) : sv O H (σ.set i x) j = sv O H σ j := by
  by_cases hj : j < nl O
  · rw [sv_loc hj, sv_loc hj, List.getElem?_set_ne e]
  · exact sv_ob (h0.imp id ob_set) hj
theorem sv_set_eq {H : Hp} {σ : L2.St} {i : Nat} {x : Option V} (hl : i < nl O) (hi : i < σ.length) : sv O H (σ.set i x) i = some x := by
  rw [sv_loc hl, List.getElem?_set_self hi]
theorem Rs.step {k : Ak} {d : D} {v : V} (h : Rs K O w w1 k d v) (b : Stp O w1 w2) (hs : w2.σ = w1.σ) : Rs K O w w2 k d v := by
  cases k with
  | fz => exact Rp.mono b.ex _ _ h
  | ow =>
    obtain ⟨p, e, h1, h2, h3, h4, h5⟩ := h
    obtain ⟨o, e1, e2⟩ := h2
    exact ⟨p, e, b.nw p o e1 h3 h1, ⟨o, e2.kh (b.kp' e1 h3), e2.mono b.ex⟩, b.nofp e1 h3, h4, fun z => by rw [hs]; exact h5 z⟩
  | br i =>
    obtain ⟨h1, h2⟩ := h
    refine ⟨?_, h2⟩
    show sv O w2.H w2.σ i = _
    rw [hs, sv_same (H := w1.H) b.ost]
    exact h1
theorem Rs.pre {k : Ak} {d : D} {v : V} (a : StpS O w w1) (h : Rs K O w1 w2 k d v) : Rs K O w w2 k d v := by
  cases k with
  | fz => exact h
  | ow =>
    obtain ⟨p, e, h1, h2, h3, h4, h5⟩ := h
    refine ⟨p, e, h1, h2, h3, ?_, h5⟩
    rcases h4 with h4 | h4
    · exact a.fp p h4
    · exact a.back h4
  | br i => exact h
structure Pur (F H F' H' : Hp) : Prop where
  ex : Same F F'
  hh : SameK H H'
  sub : Same F' H'
  nw : ∀ b o, H b = some o → F b = none → F' b = none
theorem Pur.refl {F H : Hp} (s : Same F H) : Pur F H F H := ⟨.refl _, .refl _, s, fun _ _ _ h => h⟩
theorem Ok.tbF (ok : Ok K O w) {P : Addr} (hP : P ∈ tabsOf K) : ¬ Fp O w P := fun z => by
  obtain ⟨o, e, n⟩ := ok.ownN z
  obtain ⟨ps, h, _⟩ := (ok.tb P hP).1
  rw [e] at h
  exact n.1 _ (Option.some.inj h)
theorem ok_tb {F H F' H' : Hp} (p : Pur F H F' H') {P : Addr} (h : LamX.TabS H P qU ∧ F P = none) : LamX.TabS H' P qU ∧ F' P = none := by
  obtain ⟨h1, h2⟩ := h
  obtain ⟨ps, h3, _⟩ := id h1
  exact ⟨p.hh.tb P h1, p.nw P _ h3 h2⟩
theorem ok_tb1 {F Fc H : Hp} {P p : Addr} {o : HO} {d : D} (h : LamX.TabS H P qU ∧ F P = none) (hp : H p = some o) (c : OwnC K Fc o d) : LamX.TabS H P qU ∧ upd F p o P = none := by
  obtain ⟨h1, h2⟩ := h
  obtain ⟨ps, h3, _⟩ := id h1
  refine ⟨h1, ?_⟩
  rw [upd_ne fun z => ?_]
  · exact h2
  · rw [z, hp] at h3
    cases h3
    cases d <;> first | exact c.elim | (obtain ⟨_, z, _⟩ := c; cases z)
theorem tab_put {H : Hp} {P p : Addr} {o o' : HO} (hp : H p = some o') (n : (∀ ps, o' ≠ .tbl ps) ∧ ∀ φ, o' ≠ .ext φ) (h : LamX.TabS H P qU) : LamX.TabS (upd H p o) P qU := by
  obtain ⟨ps, h1, h2, h3⟩ := h
  refine ⟨ps, ?_, h2, fun pos cv e => ?_⟩
  · rw [upd_ne fun z => ?_]
    · exact h1
    · rw [z, hp] at h1
      exact n.1 _ (Option.some.inj h1)
  · obtain ⟨c, e1, e2⟩ := h3 pos cv e
    refine ⟨c, e1, ?_⟩
    rw [upd_ne fun z => ?_]
    · exact e2
    · rw [z, hp] at e2
      exact n.2 _ (Option.some.inj e2)
theorem nt_lst {xs : List V} : (∀ ps, HO.lst xs ≠ .tbl ps) ∧ ∀ φ, HO.lst xs ≠ .ext φ := ⟨fun _ z => (by cases z), fun _ z => (by cases z)⟩
theorem ok_put {F H : Hp} {P p : Addr} {o o' : HO} (hp : H p = some o') (n : (∀ ps, o' ≠ .tbl ps) ∧ ∀ φ, o' ≠ .ext φ) (h : LamX.TabS H P qU ∧ F P = none) : LamX.TabS (upd H p o) P qU ∧ F P = none := ⟨tab_put hp n h.1, h.2⟩
theorem Ok.pur {F' H' : Hp} (ok : Ok K O w) (p : Pur w.F w.H F' H') : Ok K O ⟨F', H', w.σ, w.ρ⟩ ∧ Stp O w ⟨F', H', w.σ, w.ρ⟩ := by
  have hO : hasO O = true → H' (ob O w.σ) = w.H (ob O w.σ) := fun e => by
    obtain ⟨C, dx, fs, e1, _⟩ := (ok.obj e).ex
    rw [e1]
    exact p.hh.kh _ _ e1
  have hs : ∀ i, sv O H' w.σ i = w.sv O i := fun i => sv_same hO
  have hA : ∀ i b, OwnAt O ⟨F', H', w.σ, w.ρ⟩ i b ↔ OwnAt O w i b := fun i b => by
    show (∃ k d, _ ∧ _ ∧ _ ∧ sv O H' w.σ i = _) ↔ _
    rw [hs]
    exact Iff.rfl
  have hF : ∀ b, Fp O ⟨F', H', w.σ, w.ρ⟩ b ↔ Fp O w b := fun b => ⟨fun ⟨i, h⟩ => ⟨i, (hA i b).mp h⟩, fun ⟨i, h⟩ => ⟨i, (hA i b).mpr h⟩⟩
  refine ⟨⟨p.sub, ok.ls, ok.lr, fun i d h1 h2 => ?_, fun i k d h1 h2 h3 => ?_, fun i j b h1 h2 => ok.ap i j b ((hA i b).mp h1) ((hA j b).mp h2), fun e => ?_, fun P hP => ok_tb p (ok.tb P hP)⟩, ⟨p.ex, fun b o h _ _ => p.hh.kh b o h, fun b o h _ f => p.nw b o h f, fun b h => .inl ((hF b).mp h), fun i _ _ _ => hs i, fun _ _ _ _ => rfl, fun i k q d h1 h2 h3 h4 => ?_, fun e => ⟨rfl, fun z y => ?_⟩, fun P h => p.hh.tb P h⟩, hO⟩
  · obtain ⟨v, e, r⟩ := ok.fz i d h1 h2
    exact ⟨v, (hs i).trans e, r.mono p.ex⟩
  · obtain ⟨q, e, f, o, e1, e2⟩ := ok.ow i k d h1 h2 h3
    exact ⟨q, (hs i).trans e, p.nw q o e1 f, o, e2.kh (p.hh.kh q o e1), e2.mono p.ex⟩
  · obtain ⟨a0, a1, ⟨C, dx, fs, a2, a3⟩, a4, a5, a6⟩ := ok.obj e
    exact ⟨a0, a1, ⟨C, dx, fs, p.hh.kh _ _ a2, p.hh.kh _ _ a3⟩, p.nw _ _ a2 a4, fun z => a5 ((hF _).mp z), fun C dx fs z => a6 C dx fs ((hO e).symm.trans z)⟩
  · obtain ⟨q', e, f, o, e1, e2⟩ := ok.ow i k d h1 (Kd.own_of h2) h3
    rw [h4] at e
    cases e
    show H' q = w.H q
    rw [e1]
    exact e2.kh (p.hh.kh q o e1)
  · have y : H' (ob O w.σ) = none := y
    rw [hO e] at y
    exact z y
end
def bltNames : List Str := ["len", "isinstance", "int", "bool", "str", "list", "tuple", "dict", "set", "range", "zip", "enumerate", "all", "any", "max", "min", "abs", "sorted", "sum", "reversed"]
def setFT (b : Bool) (w : World) : World := { w with params := { w.params with followText := fun s => if s = "special-get-raises" then b else w.params.followText s } }
theorem setFT_eq (w : World) : setFT (w.params.followText "special-get-raises") w = w := by
  have e : (fun s => if s = "special-get-raises" then w.params.followText "special-get-raises" else w.params.followText s) = w.params.followText := funext fun s => by
    by_cases h : s = "special-get-raises"
    · rw [if_pos h, h]
    · rw [if_neg h]
  unfold setFT
  rw [e]
def clsV (K : PySem.W.Frag) (c : Str) : Value := .ref (He.ga K c)
def rtTail : List Value := [.type "RuntimeError", .type "Exception", .type "BaseException", .type "object"]
def exkB (K : PySem.W.Frag) (c : Str) : Bool := He.eqO (PySem.W.nsIn K mainGlobals c) (some (some (clsV K c))) && (PySem.W.excIn K (He.ga K c) rtTail "RuntimeError.__new__" && (PySem.W.keepIn K (clsV K c) && (decide (PySem.W.subIn K (clsV K c) (.type "BaseException") = some true) && decide (PySem.W.typeIn K (clsV K c) = some (.type "type")))))
def eightX : List Str := ["BadCode", "BadNames", "BadNumber", "Unsound", "BadOrder", "BadText", "BadUnits", "BadBytes"]
def sixX : List Str := ["BadNames", "BadNumber", "Unsound", "BadOrder", "BadUnits", "BadBytes"]
def exwB (K : PySem.W.Frag) (c : Str) : Bool := decide (c ∈ sixX) &&
  ((decide (PySem.W.findIn K (clsV K c) "__getattribute__" = some (some (.builtin "BaseException.__getattribute__"))) && (decide (PySem.W.findIn K (clsV K c) "__getattr__" = some none) && (decide (PySem.W.subIn K (clsV K c) (.type "BaseException") = some true) && (PySem.W.hasDictIn K (He.ga K c) &&
    (decide (PySem.W.findIn K (clsV K c) "__class__" = some (some (.builtin "object.__class__"))) && (decide (PySem.W.specialIn K (.builtin "object.__class__") "__get__" = some (some (.builtin "getset_descriptor.__get__"))) && (decide (PySem.W.takesIn K (.builtin "object.__class__") = some true) && decide (PySem.W.mroIn K (He.ga K c) (.type "object") = some true)))))))) &&
  (decide (PySem.W.exmOne K (clsV K c) (clsV K "MillError") = some true) && (decide (PySem.W.kitOne K (clsV K c) (.type "RuntimeError") = some true) && eightX.all fun t => decide (PySem.W.kitOne K (clsV K c) (clsV K t) = some (decide (t = c))))))
def exmB (K : PySem.W.Frag) : Bool := He.eqO (PySem.W.nsIn K mainGlobals "MillError") (some (some (clsV K "MillError"))) && (He.eqO (PySem.W.nsIn K mainGlobals "RuntimeError") (some none) && eightX.all fun t => He.eqO (PySem.W.nsIn K mainGlobals t) (some (some (clsV K t))))
def topS (i : Nat) : Stmt := PySem.Challenge.pw_codemill_k55_whole_fewest_swaps.main.body.getD i (.Pass ⟨0, 0, 0, 0⟩)
abbrev s_is_number : Stmt := topS 11
abbrev s_look_order : Stmt := topS 13
abbrev s_swaps_for : Stmt := topS 14
abbrev s_fewest_swaps : Stmt := topS 15
abbrev s__law_town : Stmt := topS 17
abbrev s__law_draw : Stmt := topS 18
abbrev s__law_whole : Stmt := topS 19
abbrev s__law_wholes : Stmt := topS 20
abbrev s__law_word : Stmt := topS 21
abbrev s__law_refused : Stmt := topS 22
abbrev s__law_one : Stmt := topS 24
abbrev s__law_told : Stmt := topS 23
def xcL : List Str := ["BadOrder"]
abbrev s__law_moved : Stmt := topS 25
abbrev s__law_swap : Stmt := topS 27
abbrev s__law_layers : Stmt := topS 26
abbrev s_law : Stmt := topS 28
def d_is_number : He.DefD := ⟨("is_number", none), "is_number", "is_number", defArgs s_is_number, defBody s_is_number, defScope s_is_number, [], []⟩
def d_look_order : He.DefD := ⟨("look_order", none), "look_order", "look_order", defArgs s_look_order, defBody s_look_order, defScope s_look_order, [], []⟩
def d_swaps_for : He.DefD := ⟨("swaps_for", none), "swaps_for", "swaps_for", defArgs s_swaps_for, defBody s_swaps_for, defScope s_swaps_for, [], []⟩
def d_fewest_swaps : He.DefD := ⟨("fewest_swaps", none), "fewest_swaps", "fewest_swaps", defArgs s_fewest_swaps, defBody s_fewest_swaps, defScope s_fewest_swaps, [], []⟩
def d__law_town : He.DefD := ⟨("_law_town", none), "_law_town", "_law_town", defArgs s__law_town, defBody s__law_town, defScope s__law_town, [], []⟩
def d__law_draw : He.DefD := ⟨("_law_draw", none), "_law_draw", "_law_draw", defArgs s__law_draw, defBody s__law_draw, defScope s__law_draw, [], []⟩
def d__law_whole : He.DefD := ⟨("_law_whole", none), "_law_whole", "_law_whole", defArgs s__law_whole, defBody s__law_whole, defScope s__law_whole, [], []⟩
def d__law_wholes : He.DefD := ⟨("_law_wholes", none), "_law_wholes", "_law_wholes", defArgs s__law_wholes, defBody s__law_wholes, defScope s__law_wholes, [], []⟩
def d__law_word : He.DefD := ⟨("_law_word", none), "_law_word", "_law_word", defArgs s__law_word, defBody s__law_word, defScope s__law_word, [], []⟩
def d__law_refused : He.DefD := ⟨("_law_refused", none), "_law_refused", "_law_refused", defArgs s__law_refused, defBody s__law_refused, defScope s__law_refused, [], []⟩
def d__law_one : He.DefD := ⟨("_law_one", none), "_law_one", "_law_one", defArgs s__law_one, defBody s__law_one, defScope s__law_one, [], []⟩
def d__law_told : He.DefD := ⟨("_law_told", none), "_law_told", "_law_told", defArgs s__law_told, defBody s__law_told, defScope s__law_told, [], []⟩
def d__law_moved : He.DefD := ⟨("_law_moved", none), "_law_moved", "_law_moved", defArgs s__law_moved, defBody s__law_moved, defScope s__law_moved, [], []⟩
def d__law_swap : He.DefD := ⟨("_law_swap", none), "_law_swap", "_law_swap", defArgs s__law_swap, defBody s__law_swap, defScope s__law_swap, [], []⟩
def d__law_layers : He.DefD := ⟨("_law_layers", none), "_law_layers", "_law_layers", defArgs s__law_layers, defBody s__law_layers, defScope s__law_layers, [], []⟩
def d_law : He.DefD := ⟨("law", none), "law", "law", defArgs s_law, defBody s_law, defScope s_law, [], []⟩
def fn : List He.DefD := [d_is_number, d_look_order, d_swaps_for, d_fewest_swaps, d__law_town, d__law_draw, d__law_whole, d__law_wholes, d__law_word, d__law_refused, d__law_one, d__law_told, d__law_moved, d__law_swap, d__law_layers, d_law]
def fa : List He.Fa := bltNames.map He.Fa.free ++ []
def ts : List He.Tab := []
def noF0 (K : PySem.W.Frag) : Bool := match K.lookup 0 with
  | some ⟨_, _, .func _, _⟩ => false
  | _ => true
def exHB (K : PySem.W.Frag) : Bool := (exkB K "BadOrder" && (exmB K && (xcL.all (exwB K) && (decide (tabsOf K = []) && (noF0 K && true)))))
abbrev R : PySem.W.OpenRow := PySem.W.OpenLaw.row PySem.Challenge.rw_codemill_k55_whole_fewest_swaps
def asY : List Addr := List.range 2500
def obY (g : Addr → Option Obj) : He.AlX := (He.obsT fa fn ts (He.frT g asY), exHB (He.frT g asY))
abbrev hk : PySem.W.Hook where
  α := He.AlX
  obs := fun s => obY s.heap.get?
  val := fun w => He.valX fn ts w
  says := fun w h => ∃ K : PySem.W.Frag, K.In h ∧ He.SaysX fa fn ts [] exHB w h K
  of := fun w s e => ⟨_, He.frT_in, congrArg (fun z : He.AlX => z.1) e, congrArg (fun z : He.AlX => z.2) e, fun p hp => (by cases hp), fun p hp => (by cases hp), fun p hp => by cases hp⟩
  keeps := (He.hookX 1 fa fn ts [] exHB).keeps
def obX (s : PySem.W.SharedT) : He.AlX := obY (HandSHeadRun.getT s)
theorem ob_eq (s : PySem.W.SharedT) : obX s = hk.obs s.abs := by
  show obY (HandSHeadRun.getT s) = obY s.abs.heap.get?
  rw [show HandSHeadRun.getT s = s.abs.heap.get? from funext (HandSHeadRun.getT_eq s)]
def loose : List Str := (["MillError", "BadCode", "BadNames", "BadNumber", "Unsound", "BadOrder", "BadText", "BadUnits", "BadBytes", "is_number", "look_order", "swaps_for", "fewest_swaps", "_law_town", "_law_draw", "_law_whole"] : List Str) ++ (["_law_wholes", "_law_word", "_law_refused", "_law_told", "_law_one", "_law_moved", "_law_layers", "_law_swap"] : List Str)
theorem run_true (w : World) : HandSHeadRun.RunEq R (PySem.W.view R.prog [28]) hk obX 12000 loose (setFT true w) := by
  intro os
  kernel_rfl
theorem run_false (w : World) : HandSHeadRun.RunEq R (PySem.W.view R.prog [28]) hk obX 12000 loose (setFT false w) := by
  intro os
  kernel_rfl
theorem runFT (b : Bool) (w : World) : HandSHeadRun.RunEq R (PySem.W.view R.prog [28]) hk obX 12000 loose (setFT b w) := by
  cases b
  · exact run_false w
  · exact run_true w
theorem run (w : World) : HandSHeadRun.RunEq R (PySem.W.view R.prog [28]) hk obX 12000 loose w := by
  have h := runFT (w.params.followText "special-get-raises") w
  rwa [setFT_eq] at h
abbrev M := En → Option (D × En)
abbrev MT := En → Option (Bool × En)
abbrev MA := En → Option (List D × En)
def Rss (K : PySem.W.Frag) (O : List Kd) (w w' : Wd) : List Ak → List D → List V → Prop
  | [], ds, vs => ds = [] ∧ vs = []
  | k :: ks, ds, vs => ∃ d ds' v vs', ds = d :: ds' ∧ vs = v :: vs' ∧ Rs K O w w' k d v ∧ Rss K O w w' ks ds' vs'
theorem Rss.step {K : PySem.W.Frag} {O : List Kd} {w w1 w2 : Wd} (b : Stp O w1 w2) (hs : w2.σ = w1.σ) : ∀ {ks : List Ak} {ds : List D} {vs : List V}, Rss K O w w1 ks ds vs → Rss K O w w2 ks ds vs
  | [], _, _, h => h
  | k :: ks, _, _, ⟨d, ds', v, vs', e1, e2, h1, h2⟩ => ⟨d, ds', v, vs', e1, e2, h1.step b hs, h2.step b hs⟩
theorem Rss.pre {K : PySem.W.Frag} {O : List Kd} {w w1 w2 : Wd} (a : Stp O w w1) : ∀ {ks : List Ak} {ds : List D} {vs : List V}, Rss K O w1 w2 ks ds vs → Rss K O w w2 ks ds vs
  | [], _, _, h => h
  | k :: ks, _, _, ⟨d, ds', v, vs', e1, e2, h1, h2⟩ => ⟨d, ds', v, vs', e1, e2, h1.pre a, h2.pre a⟩
def tE (K : PySem.W.Frag) (O : List Kd) (m : M) (k : Ak) : TE := fun σ H Q => ∃ F ρ d ρ', Ok K O ⟨F, H, σ, ρ⟩ ∧ m ρ = some (d, ρ') ∧
  ∀ v F' H', Ok K O ⟨F', H', σ, ρ'⟩ → Stp O ⟨F, H, σ, ρ⟩ ⟨F', H', σ, ρ'⟩ → Rs K O ⟨F, H, σ, ρ⟩ ⟨F', H', σ, ρ'⟩ k d v → Q v H'
def tT (K : PySem.W.Frag) (O : List Kd) (m : MT) : TT := fun σ H Q => ∃ F ρ b ρ', Ok K O ⟨F, H, σ, ρ⟩ ∧ m ρ = some (b, ρ') ∧
  ∀ F' H', Ok K O ⟨F', H', σ, ρ'⟩ → Stp O ⟨F, H, σ, ρ⟩ ⟨F', H', σ, ρ'⟩ → Q b H'
def tA (K : PySem.W.Frag) (O : List Kd) (m : MA) (ks : List Ak) : TA := fun σ H Q => ∃ F ρ ds ρ', Ok K O ⟨F, H, σ, ρ⟩ ∧ m ρ = some (ds, ρ') ∧
  ∀ vs F' H', Ok K O ⟨F', H', σ, ρ'⟩ → Stp O ⟨F, H, σ, ρ⟩ ⟨F', H', σ, ρ'⟩ → Rss K O ⟨F, H, σ, ρ⟩ ⟨F', H', σ, ρ'⟩ ks ds vs → Q vs H'
section
variable {X : Cx} {e : Expr} {es : List Expr}
theorem PEi {t t' : TE} (h : PE X e t) (k : ∀ σ H Q, t' σ H Q → t σ H Q) : PE X e t' := ⟨fun pins s σ H Q I q => h.run pins s σ H Q I (k σ H Q q)⟩
theorem PTi {t t' : TT} (h : PT X e t) (k : ∀ σ H Q, t' σ H Q → t σ H Q) : PT X e t' := ⟨fun pins s σ H Q I q => h.run pins s σ H Q I (k σ H Q q)⟩
theorem PWi {t t' : TT} (h : PW X e t) (k : ∀ σ H Q, t' σ H Q → t σ H Q) : PW X e t' := ⟨fun wh pins s σ H Q I q => h.run wh pins s σ H Q I (k σ H Q q)⟩
theorem PAi {t t' : TA} (h : PA X es t) (k : ∀ σ H Q, t' σ H Q → t σ H Q) : PA X es t' := ⟨fun pos pins s σ H Q I q => h.run pos pins s σ H Q I (k σ H Q q)⟩
end
def mVar (i : Nat) : M := fun ρ => match ρ[i]? with
  | some (some d) => some (d, ρ)
  | _ => none
def mMv (i : Nat) : M := fun ρ => match ρ[i]? with
  | some (some d) => some (d, ρ.set i none)
  | _ => none
def mBr (i : Nat) : M := fun ρ => match ρ[i]? with
  | some (some _) => some (.none, ρ)
  | _ => none
def mC (d : D) : M := fun ρ => some (d, ρ)
theorem slot_some {ρ : En} {i : Nat} {α : Type} {f : D → Option α} {x : α} (h : (match ρ[i]? with | some (some d) => f d | _ => none) = some x) : ∃ d, ρ[i]? = some (some d) ∧ f d = some x := by
  split at h
  · exact ⟨_, by assumption, h⟩
  · cases h
section
variable {K : PySem.W.Frag} {O : List Kd} {w : Wd} {i : Nat}
theorem own_unset (p : Addr) {σ : L2.St} {ρ : En} {F H F' : Hp} (j : Nat) (h : OwnAt O ⟨F', H, σ, ρ.set i none⟩ j p) : OwnAt O ⟨F, H, σ, ρ⟩ j p ∧ j ≠ i := by
  obtain ⟨k, d, h1, h2, h3, h4⟩ := h
  by_cases e : i = j
  · subst e
    have h3 : (ρ.set i none)[i]? = some (some d) := h3
    rw [List.getElem?_set] at h3
    split at h3
    · split at h3 <;> cases h3
    · contradiction
  · have h3 : (ρ.set i none)[j]? = some (some d) := h3
    rw [List.getElem?_set_ne e] at h3
    exact ⟨⟨k, d, h1, h2, h3, h4⟩, fun z => e z.symm⟩
theorem Ok.unset (ok : Ok K O w) (i : Nat) : Ok K O ⟨w.F, w.H, w.σ, w.ρ.set i none⟩ := by
  refine ⟨ok.sub, ok.ls, by show (w.ρ.set i none).length = _; rw [List.length_set]; exact ok.lr, fun j d h1 h2 => ?_, fun j k d h1 h2 h3 => ?_, fun a b p h1 h2 => ok.ap a b p (own_unset p a h1).1 (own_unset p b h2).1, fun e => ⟨(ok.obj e).at0, (ok.obj e).n0, (ok.obj e).ex, (ok.obj e).fr, fun ⟨j, z⟩ => (ok.obj e).nf ⟨j, (own_unset (F := w.F) _ j z).1⟩, (ok.obj e).cls⟩, ok.tb⟩
  · have h2 : (w.ρ.set i none)[j]? = some (some d) := h2
    by_cases e : i = j
    · subst e
      rw [List.getElem?_set] at h2
      split at h2
      · split at h2 <;> cases h2
      · contradiction
    · rw [List.getElem?_set_ne e] at h2
      exact ok.fz j d h1 h2
  · have h3 : (w.ρ.set i none)[j]? = some (some d) := h3
    by_cases e : i = j
    · subst e
      rw [List.getElem?_set] at h3
      split at h3
      · split at h3 <;> cases h3
      · contradiction
    · rw [List.getElem?_set_ne e] at h3
      exact ok.ow j k d h1 h2 h3
end
section
variable {X : Cx} {O : List Kd} {x : Str} {pos : Pos} {i : Nat}
theorem e_var (i : Nat) (hO : O[i]? = some Kd.fz := by rfl) (hl : i < nl O := by decide) (hN : X.N[i]? = some x := by rfl) (hv : Vis X.env.scope x := by first | exact Or.inl rfl | exact Or.inr (Or.inl rfl) | exact Or.inr (Or.inr rfl)) (hd : (x == ("__debug__" : Str)) = false := by decide)
    (hcd : (x == ("__classdict__" : Str)) = false := by decide) : PE X (.Name x pos) (tE X.K O (mVar i) .fz) := by
  refine PEi (pe_var hN hv hd hcd) fun σ H Q h => ?_
  obtain ⟨F, ρ, d, ρ', ok, hm, k⟩ := h
  obtain ⟨d', e1, e2⟩ := slot_some hm
  cases e2
  obtain ⟨v, e3, r⟩ := ok.fz i _ hO e1
  exact ⟨v, (sv_loc hl).symm.trans e3, k v F H ok (.refl _ _) r⟩
theorem e_mv (i : Nat) (hO : O[i]? = some Kd.ow := by rfl) (hl : i < nl O := by decide) (hN : X.N[i]? = some x := by rfl) (hv : Vis X.env.scope x := by first | exact Or.inl rfl | exact Or.inr (Or.inl rfl) | exact Or.inr (Or.inr rfl)) (hd : (x == ("__debug__" : Str)) = false := by decide)
    (hcd : (x == ("__classdict__" : Str)) = false := by decide) : PE X (.Name x pos) (tE X.K O (mMv i) .ow) := by
  refine PEi (pe_var hN hv hd hcd) fun σ H Q h => ?_
  obtain ⟨F, ρ, d, ρ', ok, hm, k⟩ := h
  obtain ⟨d', e1, e2⟩ := slot_some hm
  cases e2
  obtain ⟨p, e3, f, r⟩ := ok.ow i Kd.ow _ hO rfl e1
  have at_i : OwnAt O ⟨F, H, σ, ρ⟩ i p := ⟨Kd.ow, d, hO, rfl, e1, e3⟩
  refine ⟨.ref p, (sv_loc hl).symm.trans e3, k _ F H (ok.unset i) ⟨⟨Same.refl _, fun _ _ h _ _ => .of h, fun _ _ _ _ h => h, fun b h => ?_, fun _ _ _ _ => rfl, fun j q h1 h2 => ?_, fun _ _ _ _ _ _ _ _ => rfl, fun _ => ⟨rfl, id⟩, fun _ h => h⟩, fun _ => rfl⟩ ⟨p, rfl, f, r, fun z => ?_, .inl ⟨i, at_i⟩, fun e z => (ok.obj e).nf (by rw [← show p = ob O σ from z]; exact ⟨i, at_i⟩)⟩⟩
  · obtain ⟨j, h⟩ := h
    exact .inl ⟨j, (own_unset b j h).1⟩
  · have e : i ≠ j := fun z => by
      subst z
      rw [hO] at h1
      cases h1
      cases h2
    exact List.getElem?_set_ne e
  · obtain ⟨j, h⟩ := z
    obtain ⟨h1, h2⟩ := own_unset (F := F) (H := H) p j h
    exact h2 (ok.ap j i p h1 at_i)
theorem e_br (i : Nat) (hO : ∃ q : Kd, O[i]? = some q ∧ q.own = true := by exact ⟨_, rfl, rfl⟩) (hl : i < nl O := by decide) (hN : X.N[i]? = some x := by rfl) (hv : Vis X.env.scope x := by first | exact Or.inl rfl | exact Or.inr (Or.inl rfl) | exact Or.inr (Or.inr rfl)) (hd : (x == ("__debug__" : Str)) = false := by decide)
    (hcd : (x == ("__classdict__" : Str)) = false := by decide) : PE X (.Name x pos) (tE X.K O (mBr i) (.br i)) := by
  refine PEi (pe_var hN hv hd hcd) fun σ H Q h => ?_
  obtain ⟨F, ρ, d, ρ', ok, hm, k⟩ := h
  obtain ⟨d', e1, e2⟩ := slot_some hm
  cases e2
  obtain ⟨q, h1, h2⟩ := hO
  obtain ⟨p, e3, f, r⟩ := ok.ow i q _ h1 h2 e1
  exact ⟨.ref p, (sv_loc hl).symm.trans e3, k _ F H ok (.refl _ _) ⟨e3, q, h1, h2⟩⟩
theorem e_const {e : Expr} {v : V} {d : D} (h : PE X e (tC v)) (r : ∀ F : Hp, Rp X.K F d v) : PE X e (tE X.K O (mC d) .fz) := by
  refine PEi h fun σ H Q q => ?_
  obtain ⟨F, ρ, d', ρ', ok, hm, k⟩ := q
  cases hm
  exact k v F H ok (.refl _ _) (r F)
theorem e_int {n : Int} {j : Nat} : PE X (.Constant (.int n) j pos) (tE X.K O (mC (.int n)) .fz) := e_const pe_int fun _ => rfl
theorem e_bl {b : Bool} {j : Nat} : PE X (.Constant (.bool b) j pos) (tE X.K O (mC (.bool b)) .fz) := e_const pe_bl fun _ => rfl
theorem e_non {j : Nat} : PE X (.Constant .none j pos) (tE X.K O (mC .none) .fz) := e_const pe_non fun _ => rfl
theorem e_str {z : Str} {j : Nat} : PE X (.Constant (.str z) j pos) (tE X.K O (mC (.str z)) .fz) := e_const pe_str fun _ => rfl
theorem frz_out {K : PySem.W.Frag} {w w' : Wd} {d : D} {v : V} (ok : Ok K O w') (st : Stp O w w') (r : Rs K O w w' .ow d v) : ∃ F', Ok K O ⟨F', w'.H, w'.σ, w'.ρ⟩ ∧ Stp O w ⟨F', w'.H, w'.σ, w'.ρ⟩ ∧ Rs K O w ⟨F', w'.H, w'.σ, w'.ρ⟩ .fz d v := by
  obtain ⟨p, rfl, h1, ⟨o, h2, h3⟩, h4, h5, h6⟩ := r
  have e' : Same w'.F (upd w'.F p o) := fun b u hb => by
    rw [upd_ne (ne_of_none hb h1)]
    exact hb
  refine ⟨upd w'.F p o, ⟨fun b u hb => ?_, ok.ls, ok.lr, fun i d g1 g2 => ?_, fun i q d g1 g2 g3 => ?_, ok.ap, fun e => ⟨(ok.obj e).at0, (ok.obj e).n0, (ok.obj e).ex, by show upd w'.F p o _ = none; rw [upd_ne (fun z => h6 e z.symm)]; exact (ok.obj e).fr, (ok.obj e).nf, (ok.obj e).cls⟩, fun P hP => ok_tb1 (ok.tb P hP) h2 h3⟩, ⟨⟨st.ex.trans e', st.kp, fun b u hb z f => ?_, st.fp, st.pn, st.lk, st.lo, st.o0, st.tb⟩, st.ost⟩, (h3.mono e').rp upd_same⟩
  · by_cases e : b = p
    · subst e
      have hb : upd w'.F b o b = some u := hb
      rw [upd_same] at hb
      cases hb
      exact h2
    · have hb : upd w'.F p o b = some u := hb
      rw [upd_ne e] at hb
      exact ok.sub b u hb
  · obtain ⟨v, e, r⟩ := ok.fz i d g1 g2
    exact ⟨v, e, r.mono e'⟩
  · obtain ⟨c, e, f, r⟩ := ok.ow i q d g1 g2 g3
    refine ⟨c, e, ?_, r.mono e' fun _ z => z⟩
    have hc : c ≠ p := fun z => by
      subst z
      exact h4 ⟨i, q, d, g1, g2, g3, e⟩
    show upd w'.F p o c = none
    rw [upd_ne hc]
    exact f
  · have hc : b ≠ p := fun y => by
      subst y
      rcases h5 with h5 | h5
      · exact z h5
      · rw [h5] at hb
        cases hb
    show upd w'.F p o b = none
    rw [upd_ne hc]
    exact st.nw b u hb z f
theorem e_frz {e : Expr} {m : M} (h : PE X e (tE X.K O m .ow)) : PE X e (tE X.K O m .fz) := by
  refine PEi h fun σ H Q q => ?_
  obtain ⟨F, ρ, d, ρ', ok, hm, k⟩ := q
  refine ⟨F, ρ, d, ρ', ok, hm, fun v F' H' ok' st r => ?_⟩
  obtain ⟨F2, a, b, c⟩ := frz_out ok' st r
  exact k v F2 H' a b c
end
def maNil : MA := fun ρ => some ([], ρ)
def maCons (m : M) (r : MA) : MA := fun ρ => (m ρ).bind fun p => (r p.2).bind fun q => some (p.1 :: q.1, q.2)
section
variable {X : Cx} {O : List Kd} {e : Expr} {es : List Expr} {σ : L2.St} {H : Hp}
theorem tA_nil {Q : List V → Hp → Prop} (h : tA X.K O maNil [] σ H Q) : tNil σ H Q := by
  obtain ⟨F, ρ, d, ρ', ok, hm, k⟩ := h
  cases hm
  exact k [] F H ok (.refl _ _) ⟨rfl, rfl⟩
theorem bind_some {α β : Type} {o : Option α} {f : α → Option β} {x : β} (h : o.bind f = some x) : ∃ a, o = some a ∧ f a = some x := by
  cases o with
  | none => cases h
  | some a => exact ⟨a, rfl, h⟩
theorem map_some {α β : Type} {o : Option α} {f : α → β} {x : β} (h : o.map f = some x) : ∃ a, o = some a ∧ f a = x := by
  cases o with
  | none => cases h
  | some a => exact ⟨a, rfl, Option.some.inj h⟩
theorem tA_cons {K : PySem.W.Frag} {m : M} {r : MA} {k : Ak} {ks : List Ak} {Q : List V → Hp → Prop} (h : tA K O (maCons m r) (k :: ks) σ H Q) : tCons (tE K O m k) (tA K O r ks) σ H Q := by
  obtain ⟨F, ρ, ds, ρ', ok, hm, q⟩ := h
  obtain ⟨⟨d, ρ1⟩, h1, h2⟩ := bind_some hm
  obtain ⟨⟨ds', ρ2⟩, h3, h4⟩ := bind_some h2
  cases h4
  refine ⟨F, ρ, d, ρ1, ok, h1, fun v F1 H1 ok1 st1 r1 => ⟨F1, ρ1, ds', ρ2, ok1, h3, fun vs F2 H2 ok2 st2 r2 => ?_⟩⟩
  exact q (v :: vs) F2 H2 ok2 (st1.trans st2) ⟨d, ds', v, vs, rfl, rfl, r1.step st2 rfl, r2.pre st1⟩
theorem a_nil : PA X [] (tA X.K O maNil []) := PAi pa_nil fun _ _ _ h => tA_nil h
theorem a_cons {m : M} {r : MA} {k : Ak} {ks : List Ak} (h : PE X e (tE X.K O m k)) (t : PA X es (tA X.K O r ks)) (hs : starEach (e :: es) X.env = (false, eval e X.env) :: starEach es X.env := by rfl) : PA X (e :: es) (tA X.K O (maCons m r) (k :: ks)) :=
  PAi (pa_cons h t hs) fun _ _ _ h => tA_cons h
end
mutual
def Vw (K : PySem.W.Frag) (F H : Hp) (d : D) (v : V) : Prop := match d with
  | .list ds => ∃ a xs, v = .ref a ∧ SqL K H a xs ∧ RpA K F ds xs
  | .dict kvs => (∃ a vs, v = .ref a ∧ Rd H a (.dK vs) ∧ RpD K F kvs vs) ∨ RpO K F kvs v
  | d => Rp K F d v
end
def VwA (K : PySem.W.Frag) (F H : Hp) : List D → List V → Prop
  | [], vs => vs = []
  | d :: ds, vs => ∃ v r, vs = v :: r ∧ Vw K F H d v ∧ VwA K F H ds r
theorem Rp.vw {K : PySem.W.Frag} {F H : Hp} (s : Same F H) : ∀ {d : D} {v : V}, Rp K F d v → Vw K F H d v
  | .none, _, h => h
  | .bool _, _, h => h
  | .int _, _, h => h
  | .str _, _, h => h
  | .tuple _, _, h => h
  | .list ds, _, ⟨a, xs, e, h1, h2⟩ => ⟨a, xs, e, s.seq h1, h2⟩
  | .dict ds, _, .inl ⟨a, xs, e, h1, h2⟩ => .inl ⟨a, xs, e, same_rd s h1, h2⟩
  | .dict ds, _, .inr h => .inr h
theorem OwnO.vw {K : PySem.W.Frag} {F H : Hp} {p : Addr} : ∀ {d : D}, OwnO K F H p d → Vw K F H d (.ref p)
  | .none, ⟨_, _, h⟩ => h.elim
  | .bool _, ⟨_, _, h⟩ => h.elim
  | .int _, ⟨_, _, h⟩ => h.elim
  | .str _, ⟨_, _, h⟩ => h.elim
  | .tuple _, ⟨_, _, h⟩ => h.elim
  | .list ds, ⟨o, h1, xs, h2, h3⟩ => ⟨p, xs, rfl, .inl (.inl (by rw [h1, h2])), h3⟩
  | .dict ds, ⟨o, h1, xs, h2, h3⟩ => .inl ⟨p, xs, rfl, .inl (by rw [h1, h2]), h3⟩
def fill : List Ak → List D → En → Option (List D)
  | [], [], _ => some []
  | .br i :: ks, _ :: ds, ρ => (match ρ[i]? with
    | some (some d) => (fill ks ds ρ).map (d :: ·)
    | _ => none)
  | .fz :: ks, d :: ds, ρ => (fill ks ds ρ).map (d :: ·)
  | .ow :: ks, d :: ds, ρ => (fill ks ds ρ).map (d :: ·)
  | _, _, _ => none
theorem Rss.views {K : PySem.W.Frag} {O : List Kd} {w w' : Wd} (ok : Ok K O w') : ∀ {ks : List Ak} {ds : List D} {vs : List V} {es : List D}, Rss K O w w' ks ds vs → fill ks ds w'.ρ = some es → VwA K w'.F w'.H es vs
  | [], _, _, _, ⟨h1, h2⟩, hf => by
    subst h1 h2
    cases hf
    rfl
  | .br i :: ks, _, _, _, ⟨d, ds', v, vs', h1, h2, h3, h4⟩, hf => by
    subst h1 h2
    obtain ⟨d', e1, e2⟩ := slot_some hf
    obtain ⟨es', e3, e4⟩ := map_some e2
    subst e4
    obtain ⟨g1, q, g2, g3⟩ := h3
    obtain ⟨p, r1, r2, r3⟩ := ok.ow i q d' g2 g3 e1
    rw [g1] at r1
    cases r1
    exact ⟨.ref p, vs', rfl, r3.vw, h4.views ok e3⟩
  | .fz :: ks, _, _, _, ⟨d, ds', v, vs', h1, h2, h3, h4⟩, hf => by
    subst h1 h2
    obtain ⟨es', e3, e4⟩ := map_some hf
    subst e4
    exact ⟨v, vs', rfl, Rp.vw ok.sub h3, h4.views ok e3⟩
  | .ow :: ks, _, _, _, ⟨d, ds', v, vs', h1, h2, h3, h4⟩, hf => by
    subst h1 h2
    obtain ⟨es', e3, e4⟩ := map_some hf
    subst e4
    obtain ⟨p, rfl, g1, g2, g3, g4⟩ := h3
    exact ⟨.ref p, vs', rfl, g2.vw, h4.views ok e3⟩
def mOp (ks : List Ak) (ma : MA) (op : List D → Option D) : M := fun ρ => (ma ρ).bind fun p => (fill ks p.1 p.2).bind fun ds => (op ds).map fun d => (d, p.2)
def Rs1 (K : PySem.W.Frag) (H F' H' : Hp) (k : Ak) (d : D) (v : V) : Prop := match k with
  | .fz => Rp K F' d v
  | .ow => ∃ p, v = .ref p ∧ F' p = none ∧ OwnO K F' H' p d ∧ H p = none
  | .br _ => False
def Post (K : PySem.W.Frag) (F H : Hp) (k : Ak) (d : D) (Q : VK) : Prop := ∀ v F' H', Pur F H F' H' → Rs1 K H F' H' k d v → Q v H'
def LSem (K : PySem.W.Frag) (r : List V → Hp → VK → Prop) (op : List D → Option D) (k : Ak) : Prop := ∀ (F H : Hp) (ds : List D) (vs : List V) (d : D) (Q : VK), Same F H → VwA K F H ds vs → op ds = some d → Post K F H k d Q → r vs H Q
section
variable {K : PySem.W.Frag} {O : List Kd} {w : Wd}
theorem Rs1.rs {k : Ak} {d : D} {v : V} {F' H' : Hp} (ok : Ok K O w) (st : Stp O w ⟨F', H', w.σ, w.ρ⟩) (h : Rs1 K w.H F' H' k d v) : Rs K O w ⟨F', H', w.σ, w.ρ⟩ k d v := by
  cases k with
  | fz => exact h
  | ow =>
    obtain ⟨p, e, h1, h2, h3⟩ := h
    refine ⟨p, e, h1, h2, fun z => ?_, .inr h3, fun e z => ?_⟩
    · obtain ⟨_, o, z⟩ := ok.ownF (p := p) ((fp_same (F := w.F) (H := w.H) st.ost).mp z)
      rw [h3] at z
      cases z
    · obtain ⟨C, dx, fs, y, _⟩ := (ok.obj e).ex
      have z : p = ob O w.σ := z
      rw [z, y] at h3
      cases h3
  | br i => exact h.elim
theorem tA_op {ks : List Ak} {ma : MA} {op : List D → Option D} {r : List V → Hp → VK → Prop} {k : Ak} {σ : L2.St} {H : Hp} {Q : VK} (hs : LSem K r op k) (h : tE K O (mOp ks ma op) k σ H Q) : tA K O ma ks σ H fun vs H1 => r vs H1 Q := by
  obtain ⟨F, ρ, d, ρ', ok, hm, q⟩ := h
  obtain ⟨⟨ds, ρ1⟩, h1, h2⟩ := bind_some hm
  obtain ⟨es, h3, h4⟩ := bind_some h2
  obtain ⟨d', h5, h6⟩ := map_some h4
  cases h6
  refine ⟨F, ρ, ds, ρ1, ok, h1, fun vs F1 H1 ok1 st1 r1 => ?_⟩
  refine hs F1 H1 es vs d Q ok1.sub (r1.views ok1 h3) h5 fun v F2 H2 pu r2 => ?_
  obtain ⟨ok2, st2⟩ := ok1.pur pu
  exact q v F2 H2 ok2 (st1.trans st2) ((r2.rs ok1 st2).pre st1)
end
section
variable {X : Cx} {O : List Kd} {e a b : Expr} {es : List Expr} {ma mb : M} {ka kb k : Ak} {op : List D → Option D} {σ : L2.St} {H : Hp} {Q : VK}
def m2 (ka kb : Ak) (ma mb : M) (op : List D → Option D) : M := mOp [ka, kb] (maCons ma (maCons mb maNil)) op
def m1 (ka : Ak) (ma : M) (op : List D → Option D) : M := mOp [ka] (maCons ma maNil) op
def rL2 (r : R2) : List V → Hp → VK → Prop := fun vs H Q => ∃ x y, vs = [x, y] ∧ r x y H Q
def rL1 (r : V → Hp → VK → Prop) : List V → Hp → VK → Prop := fun vs H Q => ∃ x, vs = [x] ∧ r x H Q
theorem tOp_of {K : PySem.W.Frag} {r : R2} (hs : LSem K (rL2 r) op k) (h : tE K O (m2 ka kb ma mb op) k σ H Q) : tOp r (tE K O ma ka) (tE K O mb kb) σ H Q := by
  have q := tA_cons (tA_op hs h)
  obtain ⟨F, ρ, d, ρ', ok, hm, q⟩ := q
  refine ⟨F, ρ, d, ρ', ok, hm, fun v F1 H1 ok1 st1 r1 => ?_⟩
  have q1 := tA_cons (q v F1 H1 ok1 st1 r1)
  obtain ⟨F2, ρ2, d2, ρ2', ok2, hm2, q2⟩ := q1
  refine ⟨F2, ρ2, d2, ρ2', ok2, hm2, fun v2 F3 H3 ok3 st3 r3 => ?_⟩
  obtain ⟨F4, ρ4, ds, ρ4', ok4, hm4, q4⟩ := q2 v2 F3 H3 ok3 st3 r3
  cases hm4
  obtain ⟨x, y, e1, z⟩ := q4 [] F4 H3 ok4 (.refl _ _) ⟨rfl, rfl⟩
  cases e1
  exact z
theorem tUn_of {K : PySem.W.Frag} {r : V → Hp → VK → Prop} (hs : LSem K (rL1 r) op k) (h : tE K O (m1 ka ma op) k σ H Q) : tUn r (tE K O ma ka) σ H Q := by
  have q := tA_cons (tA_op hs h)
  obtain ⟨F, ρ, d, ρ', ok, hm, q⟩ := q
  refine ⟨F, ρ, d, ρ', ok, hm, fun v F1 H1 ok1 st1 r1 => ?_⟩
  obtain ⟨F4, ρ4, ds, ρ4', ok4, hm4, q4⟩ := q v F1 H1 ok1 st1 r1
  cases hm4
  obtain ⟨x, e1, z⟩ := q4 [] F4 H1 ok4 (.refl _ _) ⟨rfl, rfl⟩
  cases e1
  exact z
theorem e_op {bo : Operator} {r : R2} {pos : Pos} (ho : OpR X (binaryOp bo) r) (hs : LSem X.K (rL2 r) op k) (ha : PE X a (tE X.K O ma ka)) (hb : PE X b (tE X.K O mb kb)) : PE X (.BinOp a bo b pos) (tE X.K O (m2 ka kb ma mb op) k) :=
  PEi (pe_op ho ha hb) fun _ _ _ h => tOp_of hs h
theorem e_cmp {co : CmpOp} {r : R2} {pos : Pos} (ho : OpR X (compareOp co) r) (hs : LSem X.K (rL2 r) op k) (ha : PE X a (tE X.K O ma ka)) (hb : PE X b (tE X.K O mb kb)) (hm : behindInMarks co b = false := by first | exact nomark _ | rfl | with_unfolding_all rfl) :
    PE X (.Compare a [co] [b] pos) (tE X.K O (m2 ka kb ma mb op) k) := PEi (pe_cmpR ho ha hb hm) fun _ _ _ h => tOp_of hs h
theorem e_un {uo : UnaryOp} {r : V → Hp → VK → Prop} {pos : Pos} (ho : UnR X (unaryOp uo) r) (hs : LSem X.K (rL1 r) op k) (ha : PE X a (tE X.K O ma ka)) : PE X (.UnaryOp uo a pos) (tE X.K O (m1 ka ma op) k) :=
  PEi (pe_un ho ha) fun _ _ _ h => tUn_of hs h
def mTr (m : M) : MT := fun ρ => (m ρ).bind fun p => match p.1 with
  | .bool b => some (b, p.2)
  | _ => none
theorem tr_some {m : M} {ρ : En} {b : Bool} {ρ' : En} (h : mTr m ρ = some (b, ρ')) : m ρ = some (.bool b, ρ') := by
  obtain ⟨⟨d, ρ1⟩, h1, h2⟩ := bind_some h
  cases d <;> cases h2
  exact h1
theorem tTr {K : PySem.W.Frag} {m : M} {Q : Bool → Hp → Prop} (h : tT K O (mTr m) σ H Q) : tE K O m .fz σ H fun x H1 => ∃ c, x = .bl c ∧ Q c H1 := by
  obtain ⟨F, ρ, b, ρ', ok, hm, q⟩ := h
  exact ⟨F, ρ, _, ρ', ok, tr_some hm, fun v F1 H1 ok1 st1 r1 => ⟨b, r1, q F1 H1 ok1 st1⟩⟩
theorem t_cmp {co : CmpOp} {r : R2} {pos : Pos} (ho : OpR X (compareOp co) r) (hs : LSem X.K (rL2 r) op .fz) (ha : PE X a (tE X.K O ma ka)) (hb : PE X b (tE X.K O mb kb)) (hm : behindInMarks co b = false := by first | exact nomark _ | rfl | with_unfolding_all rfl) :
    PT X (.Compare a [co] [b] pos) (tT X.K O (mTr (m2 ka kb ma mb op))) := PTi (pt_cmpR ho ha hb hm) fun _ _ _ h => tOp_of hs (tTr h)
theorem t_val {m : M} (h : PE X e (tE X.K O m .fz)) (he : ∀ whole, isTrue e X.env whole = (do let v ← whole; standAt e.pos; holding [v] (truthy v)) := by intro _; rfl) : PT X e (tT X.K O (mTr m)) :=
  PTi (pt_val h he) fun _ _ _ h => tTr h
variable {ta tb : MT} {rest : List Expr} {pos : Pos}
def mAnd (a b : MT) : MT := fun ρ => (a ρ).bind fun p => if p.1 = true then b p.2 else some (false, p.2)
def mOr (a b : MT) : MT := fun ρ => (a ρ).bind fun p => if p.1 = true then some (true, p.2) else b p.2
def mNot (a : MT) : MT := fun ρ => (a ρ).map fun p => (!p.1, p.2)
theorem w_and1 (ha : PT X a (tT X.K O ta)) : PW X (.BoolOp .And [a] pos) (tT X.K O ta) := pw_and1 ha
theorem w_or1 (ha : PT X a (tT X.K O ta)) : PW X (.BoolOp .Or [a] pos) (tT X.K O ta) := pw_or1 ha
theorem w_and (ha : PT X a (tT X.K O ta)) (hb : PW X (.BoolOp .And (b :: rest) pos) (tT X.K O tb)) : PW X (.BoolOp .And (a :: b :: rest) pos) (tT X.K O (mAnd ta tb)) := by
  refine PWi (pw_and ha hb) fun σ H Q h => ?_
  obtain ⟨F, ρ, c, ρ', ok, hm, q⟩ := h
  obtain ⟨⟨c1, ρ1⟩, h1, h2⟩ := bind_some hm
  refine ⟨F, ρ, c1, ρ1, ok, h1, fun F1 H1 ok1 st1 => ?_⟩
  cases c1 with
  | true =>
    rw [if_pos rfl] at h2 ⊢
    exact ⟨F1, ρ1, c, ρ', ok1, h2, fun F2 H2 ok2 st2 => q F2 H2 ok2 (st1.trans st2)⟩
  | false =>
    rw [if_neg Bool.false_ne_true] at h2 ⊢
    cases h2
    exact q F1 H1 ok1 st1
theorem w_or (ha : PT X a (tT X.K O ta)) (hb : PW X (.BoolOp .Or (b :: rest) pos) (tT X.K O tb)) : PW X (.BoolOp .Or (a :: b :: rest) pos) (tT X.K O (mOr ta tb)) := by
  refine PWi (pw_or ha hb) fun σ H Q h => ?_
  obtain ⟨F, ρ, c, ρ', ok, hm, q⟩ := h
  obtain ⟨⟨c1, ρ1⟩, h1, h2⟩ := bind_some hm
  refine ⟨F, ρ, c1, ρ1, ok, h1, fun F1 H1 ok1 st1 => ?_⟩
  cases c1 with
  | false =>
    rw [if_neg Bool.false_ne_true] at h2 ⊢
    exact ⟨F1, ρ1, c, ρ', ok1, h2, fun F2 H2 ok2 st2 => q F2 H2 ok2 (st1.trans st2)⟩
  | true =>
    rw [if_pos rfl] at h2 ⊢
    cases h2
    exact q F1 H1 ok1 st1
theorem t_not (ha : PT X a (tT X.K O ta)) : PT X (.UnaryOp .Not a pos) (tT X.K O (mNot ta)) := by
  refine PTi (pt_not ha) fun σ H Q h => ?_
  obtain ⟨F, ρ, c, ρ', ok, hm, q⟩ := h
  obtain ⟨⟨c1, ρ1⟩, h1, h2⟩ := map_some hm
  cases h2
  exact ⟨F, ρ, c1, ρ1, ok, h1, fun F1 H1 ok1 st1 => q F1 H1 ok1 st1⟩
def mAndV (a b : M) : M := fun ρ => (mTr a ρ).bind fun p => if p.1 = true then b p.2 else some (.bool false, p.2)
def mOrV (a b : M) : M := fun ρ => (mTr a ρ).bind fun p => if p.1 = true then some (.bool true, p.2) else b p.2
def mNotV (a : M) : M := fun ρ => (mTr a ρ).map fun p => (.bool (!p.1), p.2)
theorem e_one {bo} (h : PE X a (tE X.K O ma .fz)) : PE X (.BoolOp bo [a] pos) (tE X.K O ma .fz) := pe_one h
theorem e_and (ha : PE X a (tE X.K O ma .fz)) (hb : PE X (.BoolOp .And (b :: rest) pos) (tE X.K O mb .fz)) : PE X (.BoolOp .And (a :: b :: rest) pos) (tE X.K O (mAndV ma mb) .fz) := by
  refine PEi (pe_and ha hb) fun σ H Q h => ?_
  obtain ⟨F, ρ, d, ρ', ok, hm, q⟩ := h
  obtain ⟨⟨c1, ρ1⟩, h1, h2⟩ := bind_some hm
  refine ⟨F, ρ, _, ρ1, ok, tr_some h1, fun v F1 H1 ok1 st1 r1 => ⟨c1, r1, ?_⟩⟩
  cases c1 with
  | true =>
    rw [if_pos rfl] at h2 ⊢
    exact ⟨F1, ρ1, d, ρ', ok1, h2, fun v F2 H2 ok2 st2 r2 => q v F2 H2 ok2 (st1.trans st2) (r2.pre st1)⟩
  | false =>
    rw [if_neg Bool.false_ne_true] at h2 ⊢
    cases h2
    exact q _ F1 H1 ok1 st1 rfl
theorem e_not (ha : PE X a (tE X.K O ma .fz)) : PE X (.UnaryOp .Not a pos) (tE X.K O (mNotV ma) .fz) := by
  refine PEi (pe_not ha) fun σ H Q h => ?_
  obtain ⟨F, ρ, d, ρ', ok, hm, q⟩ := h
  obtain ⟨⟨c1, ρ1⟩, h1, h2⟩ := map_some hm
  cases h2
  exact ⟨F, ρ, _, ρ1, ok, tr_some h1, fun v F1 H1 ok1 st1 r1 => ⟨c1, r1, q _ F1 H1 ok1 st1 rfl⟩⟩
def mIf (t : MT) (a b : M) : M := fun ρ => (t ρ).bind fun p => if p.1 = true then a p.2 else b p.2
end
section
variable {K : PySem.W.Frag} {F H : Hp}
theorem Pur.frozen (s : Same F H) {p : Addr} (hp : H p = none) (o : HO) : Pur F H (upd F p o) (upd H p o) := by
  have fp : F p = none := s.free hp
  refine ⟨fun b u e => ?_, .of fun b u e => ?_, fun b u e => ?_, fun b u e f => ?_⟩
  · rw [upd_ne (ne_of_none e fp)]
    exact e
  · rw [upd_ne (ne_of_none e hp)]
    exact e
  · by_cases z : b = p
    · subst z
      rw [upd_same] at e ⊢
      exact e
    · rw [upd_ne z] at e ⊢
      exact s b u e
  · rw [upd_ne (ne_of_none e hp)]
    exact f
theorem Pur.owned (s : Same F H) {p : Addr} (hp : H p = none) (o : HO) : Pur F H F (upd H p o) := by
  refine ⟨.refl _, .of fun b u e => ?_, fun b u e => ?_, fun b u e f => f⟩
  · rw [upd_ne (ne_of_none e hp)]
    exact e
  · rw [upd_ne (ne_of_none e (s.free hp))]
    exact s b u e
theorem Post.now {d : D} {v : V} {Q : VK} (s : Same F H) (q : Post K F H .fz d Q) (r : Rp K F d v) : Q v H := q v F H (.refl s) r
theorem Post.tup {ds : List D} {vs : List V} {Q : VK} (s : Same F H) (q : Post K F H .fz (.tuple ds) Q) (r : RpA K F ds vs) : ∀ p, H p = none → Q (.ref p) (upd H p (.tup vs)) := fun p hp => by
  have pu := Pur.frozen s hp (.tup vs)
  exact q (.ref p) _ _ pu ⟨p, vs, rfl, .inl (.inl upd_same), r.mono pu.ex⟩
theorem Post.lst {ds : List D} {vs : List V} {Q : VK} (s : Same F H) (q : Post K F H .ow (.list ds) Q) (r : RpA K F ds vs) : ∀ p, H p = none → Q (.ref p) (upd H p (.lst vs)) := fun p hp => by
  have pu := Pur.owned s hp (.lst vs)
  exact q (.ref p) _ _ pu ⟨p, rfl, s.free hp, ⟨.lst vs, upd_same, vs, rfl, r⟩, hp⟩
theorem Post.dic {ds : List (D × D)} {vs : List (Key × V)} {Q : VK} (s : Same F H) (q : Post K F H .ow (.dict ds) Q) (r : RpD K F ds vs) : ∀ p, H p = none → Q (.ref p) (upd H p (.dK vs)) := fun p hp => by
  have pu := Pur.owned s hp (.dK vs)
  exact q (.ref p) _ _ pu ⟨p, rfl, s.free hp, ⟨.dK vs, upd_same, vs, rfl, r⟩, hp⟩
theorem VwA.one {d : D} {vs : List V} (h : VwA K F H [d] vs) : ∃ v, vs = [v] ∧ Vw K F H d v := by
  obtain ⟨v, r, e, h1, h2⟩ := h
  have h2 : r = [] := h2
  rw [h2] at e
  exact ⟨v, e, h1⟩
theorem VwA.two {d e : D} {vs : List V} (h : VwA K F H [d, e] vs) : ∃ v u, vs = [v, u] ∧ Vw K F H d v ∧ Vw K F H e u := by
  obtain ⟨v, r, e1, h1, h2⟩ := h
  obtain ⟨u, rfl, h3⟩ := h2.one
  exact ⟨v, u, e1, h1, h3⟩
end
def allFz : List Ak → Bool
  | [] => true
  | k :: ks => decide (k = .fz) && allFz ks
theorem Rss.fz {K : PySem.W.Frag} {O : List Kd} {w w' : Wd} : ∀ {ks : List Ak} {ds : List D} {vs : List V}, allFz ks = true → Rss K O w w' ks ds vs → RpA K w'.F ds vs ∧ ks.length = vs.length
  | [], _, _, _, ⟨h1, h2⟩ => by
    subst h1 h2
    exact ⟨rfl, rfl⟩
  | k :: ks, _, _, h, ⟨d, ds', v, vs', h1, h2, h3, h4⟩ => by
    subst h1 h2
    have hb := Bool.and_eq_true_iff.mp (show (decide (k = .fz) && allFz ks) = true from h)
    have e := of_decide_eq_true hb.1
    subst e
    obtain ⟨r1, r2⟩ := h4.fz hb.2
    exact ⟨.cons h3 r1, by rw [List.length_cons, List.length_cons, r2]⟩
def mTup (ma : MA) : M := fun ρ => (ma ρ).map fun p => (.tuple p.1, p.2)
def mLst (ma : MA) : M := fun ρ => (ma ρ).map fun p => (.list p.1, p.2)
section
variable {X : Cx} {O : List Kd} {es : List Expr} {e a b : Expr} {ma : MA} {m mb : M} {ks : List Ak} {pos : Pos}
theorem e_tup {c} (h : PA X es (tA X.K O ma ks)) (hk : allFz ks = true := by rfl) (hn : ks.length ≤ 1000 := by decide) : PE X (.Tuple es c pos) (tE X.K O (mTup ma) .fz) := by
  refine PEi (pe_tup h) fun σ H Q q => ?_
  obtain ⟨F, ρ, d, ρ', ok, hm, q⟩ := q
  obtain ⟨⟨ds, ρ1⟩, h1, h2⟩ := map_some hm
  cases h2
  refine ⟨F, ρ, ds, ρ1, ok, h1, fun vs F1 H1 ok1 st1 r1 => ?_⟩
  obtain ⟨r, hl⟩ := r1.fz hk
  refine ⟨Nat.le_trans (by omega : vs.length ≤ 1000) (by decide), Post.tup (K := X.K) (ds := ds) ok1.sub (fun v F2 H2 pu r2 => ?_) r⟩
  obtain ⟨ok2, st2⟩ := ok1.pur pu
  exact q v F2 H2 ok2 (st1.trans st2) ((r2.rs ok1 st2).pre st1)
theorem e_lst (h : PA X es (tA X.K O ma ks)) (hk : allFz ks = true := by rfl) (hn : ks.length ≤ 1000 := by decide) : PE X (.List es pos) (tE X.K O (mLst ma) .ow) := by
  refine PEi (pe_lst h) fun σ H Q q => ?_
  obtain ⟨F, ρ, d, ρ', ok, hm, q⟩ := q
  obtain ⟨⟨ds, ρ1⟩, h1, h2⟩ := map_some hm
  cases h2
  refine ⟨F, ρ, ds, ρ1, ok, h1, fun vs F1 H1 ok1 st1 r1 => ?_⟩
  obtain ⟨r, hl⟩ := r1.fz hk
  refine ⟨Nat.le_trans (by omega : vs.length ≤ 1000) (by decide), Post.lst (K := X.K) (ds := ds) ok1.sub (fun v F2 H2 pu r2 => ?_) r⟩
  obtain ⟨ok2, st2⟩ := ok1.pur pu
  exact q v F2 H2 ok2 (st1.trans st2) ((r2.rs ok1 st2).pre st1)
end
section
variable {K : PySem.W.Frag}
def opI (f : Int → Int → D) : List D → Option D
  | [.int i, .int j] => some (f i j)
  | _ => none
def opIc (c : Int → Int → Bool) (f : Int → Int → D) : List D → Option D
  | [.int i, .int j] => if c i j = true then some (f i j) else none
  | _ => none
theorem sI0 {g : Int → Int → V} {f : Int → Int → D} (hg : ∀ F i j, Rp K F (f i j) (g i j)) : LSem K (rL2 (rI0 g)) (opI f) .fz := by
  intro F H ds vs d Q s hv ho q
  unfold opI at ho
  split at ho
  · rename_i i j
    cases ho
    obtain ⟨v, u, e, h1, h2⟩ := hv.two
    exact ⟨v, u, e, i, j, h1, h2, q.now s (hg F i j)⟩
  · cases ho
theorem sIc {C : Int → Int → Prop} {c : Int → Int → Bool} {g : Int → Int → V} {f : Int → Int → D} (hc : ∀ i j, c i j = true → C i j) (hg : ∀ F i j, Rp K F (f i j) (g i j)) : LSem K (rL2 (rI C g)) (opIc c f) .fz := by
  intro F H ds vs d Q s hv ho q
  unfold opIc at ho
  split at ho
  · rename_i i j
    split at ho
    · rename_i hij
      cases ho
      obtain ⟨v, u, e, h1, h2⟩ := hv.two
      exact ⟨v, u, e, i, j, h1, h2, hc i j hij, q.now s (hg F i j)⟩
    · cases ho
  · cases ho
def dAdd := opI fun i j => .int (i + j)
def dSub := opI fun i j => .int (i - j)
def dMul := opIc (fun i j => decide (i.natAbs.log2 + j.natAbs.log2 < 1000000)) fun i j => .int (i * j)
def dDiv := opIc (fun i j => decide (j ≠ 0 ∧ j.natAbs < 1073741824)) fun i j => .int (i.fdiv j)
def dMod := opIc (fun i j => decide (j ≠ 0)) fun i j => .int (i.fmod j)
def dPow := opIc (fun i j => decide (0 ≤ j ∧ j ≤ 1000000 ∧ i.natAbs < 2 ^ 64)) fun i j => .int (i ^ j.toNat)
def dLt := opI fun i j => .bool (decide (i < j))
def dLe := opI fun i j => .bool (decide (i ≤ j))
def dGt := opI fun i j => .bool (decide (j < i))
def dGe := opI fun i j => .bool (decide (j ≤ i))
theorem s_add : LSem K (rL2 (rI0 fun i j => .int (i + j))) dAdd .fz := sI0 fun _ _ _ => rfl
theorem s_sub : LSem K (rL2 (rI0 fun i j => .int (i - j))) dSub .fz := sI0 fun _ _ _ => rfl
theorem s_mul : LSem K (rL2 (rI CMulW fun i j => .int (i * j))) dMul .fz := sIc (fun i j h => of_decide_eq_true (p := i.natAbs.log2 + j.natAbs.log2 < 1000000) h) fun _ _ _ => rfl
theorem s_mod : LSem K (rL2 (rI (fun _ j => j ≠ 0) fun i j => .int (i.fmod j))) dMod .fz := sIc (fun _ _ h => of_decide_eq_true h) fun _ _ _ => rfl
theorem s_pow : LSem K (rL2 (rI CPow fun i j => .int (i ^ j.toNat))) dPow .fz := sIc (fun i j h => of_decide_eq_true (p := 0 ≤ j ∧ j ≤ 1000000 ∧ i.natAbs < 2 ^ 64) h) fun _ _ _ => rfl
theorem s_lt : LSem K (rL2 (rI0 fun i j => .bl (decide (i < j)))) dLt .fz := sI0 fun _ _ _ => rfl
theorem s_gt : LSem K (rL2 (rI0 fun i j => .bl (decide (j < i)))) dGt .fz := sI0 fun _ _ _ => rfl
theorem s_ge : LSem K (rL2 (rI0 fun i j => .bl (decide (j ≤ i)))) dGe .fz := sI0 fun _ _ _ => rfl
mutual
theorem Rp.dp {F : Hp} : ∀ (d : D) (v : V), d.hasDict = false → Rp K F d v → Dp K F v d
  | .none, _, _, h => by
    have h : _ = V.non := h
    rw [h]
    exact .non
  | .bool b, _, _, h => by
    have h : _ = V.bl b := h
    rw [h]
    exact .bl b
  | .int i, _, _, h => by
    have h : _ = V.int i := h
    rw [h]
    exact .int i
  | .str x, _, _, h => by
    have h : _ = V.str x := h
    rw [h]
    exact .str x
  | .list ds, _, z, ⟨a, xs, e, h1, h2⟩ => by
    rw [e]
    exact .lst h1 (RpA.dp ds xs (by simpa [PyData.hasDict] using z) h2)
  | .tuple ds, _, z, ⟨a, xs, e, h1, h2⟩ => by
    rw [e]
    exact .tup h1 (RpA.dp ds xs (by simpa [PyData.hasDict] using z) h2)
  | .dict _, _, z, _ => by simp [PyData.hasDict] at z
theorem RpA.dp {F : Hp} : ∀ (ds : List D) (vs : List V), PyData.hasDictAll ds = false → RpA K F ds vs → DpAll K F vs ds
  | [], _, _, h => by
    have h : _ = [] := h
    rw [h]
    exact .nil
  | d :: ds, _, z, ⟨v, vs, e, h1, h2⟩ => by
    rw [e]
    have z2 : d.hasDict = false ∧ PyData.hasDictAll ds = false := by simpa [PyData.hasDictAll] using z
    exact .cons (Rp.dp d v z2.1 h1) (RpA.dp ds vs z2.2 h2)
end
mutual
theorem dp_mono {F H : Hp} (s : Same F H) : ∀ (d : D) (v : V), Dp K F v d → Dp K H v d
  | .none, _, h => by cases h; exact .non
  | .bool b, _, h => by cases h; exact .bl b
  | .int i, _, h => by cases h; exact .int i
  | .str x, _, h => by cases h; exact .str x
  | .list ds, _, h => by
    cases h with
    | lst h1 h2 => exact .lst (s.seq h1) (dpa_mono s ds _ h2)
  | .tuple ds, _, h => by
    cases h with
    | tup h1 h2 => exact .tup (same_sqt s h1) (dpa_mono s ds _ h2)
  | .dict _, _, h => by cases h
theorem dpa_mono {F H : Hp} (s : Same F H) : ∀ (ds : List D) (vs : List V), DpAll K F vs ds → DpAll K H vs ds
  | [], _, h => by cases h; exact .nil
  | d :: ds, _, h => by
    cases h with
    | cons h1 h2 => exact .cons (dp_mono s d _ h1) (dpa_mono s ds _ h2)
end
theorem Vw.dp {F H : Hp} (s : Same F H) : ∀ {d : D} {v : V}, d.hasDict = false → Vw K F H d v → Dp K H v d
  | .none, _, z, h => dp_mono s _ _ (Rp.dp _ _ z h)
  | .bool b, _, z, h => dp_mono s _ _ (Rp.dp _ _ z h)
  | .int i, _, z, h => dp_mono s _ _ (Rp.dp _ _ z h)
  | .str x, _, z, h => dp_mono s _ _ (Rp.dp _ _ z h)
  | .tuple ds, _, z, h => dp_mono s _ _ (Rp.dp _ _ z h)
  | .dict _, _, z, _ => by simp [PyData.hasDict] at z
  | .list ds, _, z, ⟨a, xs, e, h1, h2⟩ => by
    rw [e]
    exact .lst h1 (dpa_mono s ds xs (RpA.dp ds xs (by simpa [PyData.hasDict] using z) h2))
def eqOk (d : D) : Bool := SeqAt.shaped d && !d.hasDict
def dEq : List D → Option D
  | [a, b] => if (eqOk a && eqOk b) = true then some (.bool (PyData.eqv a b)) else none
  | _ => none
def dNe : List D → Option D
  | [a, b] => if (eqOk a && eqOk b) = true then some (.bool (!PyData.eqv a b)) else none
  | _ => none
theorem eqOk_of {d : D} (h : eqOk d = true) : SeqAt.shaped d = true ∧ d.hasDict = false := by
  obtain ⟨h1, h2⟩ := Bool.and_eq_true_iff.mp h
  exact ⟨h1, by simpa using h2⟩
theorem s_eq : LSem K (rL2 (rEqD K)) dEq .fz := by
  intro F H ds vs d Q s hv ho q
  unfold dEq at ho
  split at ho
  · rename_i a b
    split at ho
    · rename_i h
      cases ho
      obtain ⟨v, u, e, h1, h2⟩ := hv.two
      obtain ⟨ha, hb⟩ := Bool.and_eq_true_iff.mp h
      obtain ⟨a1, a2⟩ := eqOk_of ha
      obtain ⟨b1, b2⟩ := eqOk_of hb
      exact ⟨v, u, e, a, b, h1.dp s a2, h2.dp s b2, a1, b1, q.now s rfl⟩
    · cases ho
  · cases ho
theorem s_ne : LSem K (rL2 (rNeD K)) dNe .fz := by
  intro F H ds vs d Q s hv ho q
  unfold dNe at ho
  split at ho
  · rename_i a b
    split at ho
    · rename_i h
      cases ho
      obtain ⟨v, u, e, h1, h2⟩ := hv.two
      obtain ⟨ha, hb⟩ := Bool.and_eq_true_iff.mp h
      obtain ⟨a1, a2⟩ := eqOk_of ha
      obtain ⟨b1, b2⟩ := eqOk_of hb
      exact ⟨v, u, e, a, b, h1.dp s a2, h2.dp s b2, a1, b1, q.now s rfl⟩
    · cases ho
  · cases ho
def dIsN : List D → Option D
  | [d, .none] => some (.bool (match d with | .none => true | _ => false))
  | _ => none
theorem vw_non {F H : Hp} : ∀ {d : D} {v : V}, Vw K F H d v → decide (v = V.non) = (match d with | .none => true | _ => false)
  | .none, _, h => by
    have h : _ = V.non := h
    rw [h]
    rfl
  | .bool b, _, h => by
    have h : _ = V.bl b := h
    rw [h]
    rfl
  | .int i, _, h => by
    have h : _ = V.int i := h
    rw [h]
    rfl
  | .str x, _, h => by
    have h : _ = V.str x := h
    rw [h]
    rfl
  | .list ds, _, ⟨a, xs, e, _⟩ => by
    rw [e]
    rfl
  | .tuple ds, _, ⟨a, xs, e, _⟩ => by
    rw [e]
    rfl
  | .dict ds, _, .inl ⟨a, xs, e, _⟩ => by
    rw [e]
    rfl
  | .dict ds, _, .inr h => by
    obtain ⟨a, e⟩ := h.ref
    rw [e]
    rfl
theorem s_isN : LSem K (rL2 rIsN) dIsN .fz := by
  intro F H ds vs d Q s hv ho q
  unfold dIsN at ho
  split at ho
  · rename_i a
    cases ho
    obtain ⟨v, u, e, h1, h2⟩ := hv.two
    refine ⟨v, u, e, h2, q.now s ?_⟩
    show V.bl _ = V.bl _
    rw [vw_non h1]
  · cases ho
end
inductive Fl where
  | nx | bk | ct | rt (d : D)
abbrev MS := En → Option (Fl × En)
abbrev MG := D → En → Option En
abbrev MI := En → Option (List D × En)
section
variable {K : PySem.W.Frag} {O : List Kd} {w : Wd} {i : Nat} {d : D} {v : V}
theorem set_get {α : Type} {l : List α} {i j : Nat} {a b : α} (h : (l.set i a)[j]? = some b) : (i = j ∧ b = a) ∨ (i ≠ j ∧ l[j]? = some b) := by
  by_cases e : i = j
  · subst e
    rw [List.getElem?_set] at h
    split at h
    · split at h
      · exact .inl ⟨rfl, (Option.some.inj h).symm⟩
      · cases h
    · contradiction
  · rw [List.getElem?_set_ne e] at h
    exact .inr ⟨e, h⟩
theorem own_set {p : Addr} {j : Nat} {σ : L2.St} {ρ : En} {F H F' : Hp} (hl : i < nl O) (hs : i < σ.length) (h0 : hasO O = false ∨ i ≠ oi O) (h : OwnAt O ⟨F', H, σ.set i (some v), ρ.set i (some d)⟩ j p) : (j = i ∧ v = .ref p ∧ ∃ k : Kd, O[i]? = some k ∧ k.own = true) ∨ (j ≠ i ∧ OwnAt O ⟨F, H, σ, ρ⟩ j p) := by
  obtain ⟨k, d', h1, h2, h3, h4⟩ := h
  by_cases e : i = j
  · subst e
    have h4 : sv O H (σ.set i (some v)) i = some (some (.ref p)) := h4
    rw [sv_set_eq hl hs] at h4
    exact .inl ⟨rfl, Option.some.inj (Option.some.inj h4), k, h1, h2⟩
  · have h4 : sv O H (σ.set i (some v)) j = some (some (.ref p)) := h4
    rw [sv_set_ne h0 e] at h4
    refine .inr ⟨fun z => e z.symm, k, d', h1, h2, ?_, h4⟩
    have h3 : (ρ.set i (some d))[j]? = some (some d') := h3
    rw [List.getElem?_set_ne e] at h3
    exact h3
theorem ObOk.set {w' : Wd} (h : ObOk K O w) (hi : i ≠ oi O) (e1 : w'.σ = w.σ.set i (some v)) (e2 : w'.H = w.H) (e3 : w'.F = w.F) (nf : ¬ Fp O w' (ob O w.σ)) : ObOk K O w' := by
  have e : ob O w'.σ = ob O w.σ := by rw [e1, ob_set hi]
  obtain ⟨a0, a1, ⟨C, dx, fs, a2, a3⟩, a4, _, a6⟩ := h
  exact ⟨by rw [e, e1, List.getElem?_set_ne hi]; exact a0, a1, ⟨C, dx, fs, by rw [e, e2]; exact a2, by rw [e, e2]; exact a3⟩, by rw [e, e3]; exact a4, by rw [e]; exact nf, by rw [e, e2]; exact a6⟩
theorem Ok.setFz (ok : Ok K O w) (hi : O[i]? = some Kd.fz) (hl : i < nl O) (h0 : hasO O = false ∨ i ≠ oi O) (r : Rp K w.F d v) : Ok K O ⟨w.F, w.H, w.σ.set i (some v), w.ρ.set i (some d)⟩ ∧ Stp O w ⟨w.F, w.H, w.σ.set i (some v), w.ρ.set i (some d)⟩ := by
  have hln : i < w.σ.length := by
    rw [ok.ls]
    exact hl
  have noi : ∀ {p : Addr} {j : Nat}, OwnAt O ⟨w.F, w.H, w.σ.set i (some v), w.ρ.set i (some d)⟩ j p → OwnAt O w j p := fun {p j} h => by
    rcases own_set (F := w.F) hl hln h0 h with ⟨_, _, k, h1, h2⟩ | ⟨_, h⟩
    · rw [hi] at h1
      cases h1
      cases h2
    · exact h
  have hob : hasO O = true → ob O (w.σ.set i (some v)) = ob O w.σ := fun e => by
    rcases h0 with h | h
    · rw [e] at h
      cases h
    · exact ob_set h
  refine ⟨⟨ok.sub, by show (w.σ.set i _).length = _; rw [List.length_set]; exact ok.ls, by show (w.ρ.set i _).length = _; rw [List.length_set]; exact ok.lr, fun j d' h1 h2 => ?_, fun j k d' h1 h2 h3 => ?_, fun a b p h1 h2 => ok.ap a b p (noi h1) (noi h2), fun e => ?_, ok.tb⟩,
    ⟨⟨.refl _, fun _ _ h _ _ => .of h, fun _ _ _ _ h => h, fun b ⟨j, h⟩ => .inl ⟨j, noi h⟩, fun j k h1 h2 => ?_, fun j k h1 h2 => ?_, fun _ _ _ _ _ _ _ _ => rfl, fun e => ⟨hob e, id⟩, fun _ h => h⟩, fun _ => rfl⟩⟩
  · rcases set_get (show (w.ρ.set i (some d))[j]? = _ from h2) with ⟨e, q⟩ | ⟨e, q⟩
    · subst e
      cases q
      exact ⟨v, sv_set_eq hl hln, r⟩
    · obtain ⟨u, g1, g2⟩ := ok.fz j d' h1 q
      exact ⟨u, (sv_set_ne h0 e).trans g1, g2⟩
  · rcases set_get (show (w.ρ.set i (some d))[j]? = _ from h3) with ⟨e, q⟩ | ⟨e, q⟩
    · subst e
      rw [hi] at h1
      cases h1
      cases h2
    · obtain ⟨p, g1, g2⟩ := ok.ow j k d' h1 h2 q
      exact ⟨p, (sv_set_ne h0 e).trans g1, g2⟩
  · have hi0 : i ≠ oi O := h0.resolve_left (by rw [e]; exact fun z => by cases z)
    exact (ok.obj e).set hi0 rfl rfl rfl fun ⟨j, h⟩ => (ok.obj e).nf ⟨j, noi h⟩
  · have e : i ≠ j := fun z => by
      subst z
      rw [hi] at h1
      cases h1
      cases h2
    exact sv_set_ne h0 e
  · have e : i ≠ j := fun z => by
      subst z
      rw [hi] at h1
      cases h1
      cases h2
    exact List.getElem?_set_ne e
theorem Ok.setOw {p : Addr} (ok : Ok K O w) (hi : O[i]? = some Kd.ow) (hl : i < nl O) (h0 : hasO O = false ∨ i ≠ oi O) (hF : w.F p = none) (r : OwnO K w.F w.H p d) (np : ¬ Fp O w p) (npo : hasO O = true → p ≠ ob O w.σ) :
    Ok K O ⟨w.F, w.H, w.σ.set i (some (.ref p)), w.ρ.set i (some d)⟩ ∧ (∀ b, Fp O ⟨w.F, w.H, w.σ.set i (some (.ref p)), w.ρ.set i (some d)⟩ b → b = p ∨ Fp O w b) ∧
    (∀ (j : Nat) (k : Kd), O[j]? = some k → k.pin = true → sv O w.H (w.σ.set i (some (.ref p))) j = w.sv O j ∧ (w.ρ.set i (some d))[j]? = w.ρ[j]?) ∧ (hasO O = true → ob O (w.σ.set i (some (.ref p))) = ob O w.σ) := by
  have hln : i < w.σ.length := by
    rw [ok.ls]
    exact hl
  have hob : hasO O = true → ob O (w.σ.set i (some (.ref p))) = ob O w.σ := fun e => by
    rcases h0 with h | h
    · rw [e] at h
      cases h
    · exact ob_set h
  have fpb : ∀ b, Fp O ⟨w.F, w.H, w.σ.set i (some (.ref p)), w.ρ.set i (some d)⟩ b → b = p ∨ Fp O w b := fun b ⟨j, h⟩ => by
    rcases own_set (F := w.F) hl hln h0 h with ⟨_, q, _⟩ | ⟨_, q⟩
    · cases q
      exact .inl rfl
    · exact .inr ⟨j, q⟩
  refine ⟨⟨ok.sub, by show (w.σ.set i _).length = _; rw [List.length_set]; exact ok.ls, by show (w.ρ.set i _).length = _; rw [List.length_set]; exact ok.lr, fun j d' h1 h2 => ?_, fun j k d' h1 h2 h3 => ?_, fun a b q h1 h2 => ?_, fun e => ?_, ok.tb⟩, fpb, fun j k h1 h2 => ?_, hob⟩
  · rcases set_get (show (w.ρ.set i (some d))[j]? = _ from h2) with ⟨e, q⟩ | ⟨e, q⟩
    · subst e
      rw [hi] at h1
      cases h1
    · obtain ⟨u, g1, g2⟩ := ok.fz j d' h1 q
      exact ⟨u, (sv_set_ne h0 e).trans g1, g2⟩
  · rcases set_get (show (w.ρ.set i (some d))[j]? = _ from h3) with ⟨e, q⟩ | ⟨e, q⟩
    · subst e
      cases q
      exact ⟨p, sv_set_eq hl hln, hF, r⟩
    · obtain ⟨c, g1, g2⟩ := ok.ow j k d' h1 h2 q
      exact ⟨c, (sv_set_ne h0 e).trans g1, g2⟩
  · rcases own_set (F := w.F) hl hln h0 h1 with ⟨e1, q1, _⟩ | ⟨e1, q1⟩ <;> rcases own_set (F := w.F) hl hln h0 h2 with ⟨e2, q2, _⟩ | ⟨e2, q2⟩
    · rw [e1, e2]
    · cases q1
      exact (np ⟨b, q2⟩).elim
    · cases q2
      exact (np ⟨a, q1⟩).elim
    · exact ok.ap a b q q1 q2
  · have hi0 : i ≠ oi O := h0.resolve_left (by rw [e]; exact fun z => by cases z)
    refine (ok.obj e).set hi0 rfl rfl rfl fun h => ?_
    rcases fpb _ h with z | z
    · exact npo e z.symm
    · exact (ok.obj e).nf z
  · have e : i ≠ j := fun z => by
      subst z
      rw [hi] at h1
      cases h1
      cases h2
    exact ⟨sv_set_ne h0 e, List.getElem?_set_ne e⟩
theorem Ok.chg {p : Addr} {o : HO} {d0 : D} {k : Kd} (ok : Ok K O w) (hi : O[i]? = some k) (hk : k.own = true) (hl : k.lock = false) (h0 : w.ρ[i]? = some (some d0)) (hs : w.sv O i = some (some (.ref p))) (hF : w.F p = none) (r : OwnC K w.F o d) :
    Ok K O ⟨w.F, upd w.H p o, w.σ, w.ρ.set i (some d)⟩ ∧ Stp O w ⟨w.F, upd w.H p o, w.σ, w.ρ.set i (some d)⟩ := by
  have at_i : OwnAt O w i p := ⟨k, d0, hi, hk, h0, hs⟩
  have hlen : i < w.ρ.length := (List.getElem?_eq_some_iff.mp h0).1
  have npo : hasO O = true → ob O w.σ ≠ p := fun e z => (ok.obj e).nf (by rw [z]; exact ⟨i, at_i⟩)
  have hO : hasO O = true → upd w.H p o (ob O w.σ) = w.H (ob O w.σ) := fun e => upd_ne (npo e)
  have hsv : ∀ j, sv O (upd w.H p o) w.σ j = w.sv O j := fun j => sv_same hO
  have back : ∀ {q : Addr} {j : Nat}, OwnAt O ⟨w.F, upd w.H p o, w.σ, w.ρ.set i (some d)⟩ j q → OwnAt O w j q := fun {q j} ⟨k', d', h1, h2, h3, h4⟩ => by
    have h4 : sv O (upd w.H p o) w.σ j = some (some (.ref q)) := h4
    rw [hsv] at h4
    rcases set_get (show (w.ρ.set i (some d))[j]? = _ from h3) with ⟨e, z⟩ | ⟨e, z⟩
    · subst e
      exact ⟨k', d0, h1, h2, h0, h4⟩
    · exact ⟨k', d', h1, h2, z, h4⟩
  obtain ⟨o9, h9, n9⟩ : ∃ o', w.H p = some o' ∧ ((∀ ps, o' ≠ .tbl ps) ∧ ∀ φ, o' ≠ .ext φ) := by
    obtain ⟨q, y1, y2, u, y3, y4⟩ := ok.ow i k d0 hi hk h0
    rw [hs] at y1
    cases y1
    exact ⟨u, y3, y4.nt⟩
  refine ⟨⟨fun b u hb => ?_, ok.ls, by show (w.ρ.set i _).length = _; rw [List.length_set]; exact ok.lr, fun j d' h1 h2 => ?_, fun j k' d' h1 h2 h3 => ?_, fun a b q h1 h2 => ok.ap a b q (back h1) (back h2), fun e => ?_, fun P hP => ok_put h9 n9 (ok.tb P hP)⟩,
    ⟨⟨.refl _, fun b u hb z _ => ?_, fun _ _ _ _ h => h, fun b ⟨j, h⟩ => .inl ⟨j, back h⟩, fun j _ _ _ => hsv j, fun j k' h1 h2 => ?_, fun j k' q d' h1 h2 h3 h4 => ?_, fun e => ⟨rfl, fun z y => ?_⟩, fun P h => tab_put h9 n9 h⟩, hO⟩⟩
  · show upd w.H p o b = some u
    rw [upd_ne (ne_of_none hb hF)]
    exact ok.sub b u hb
  · rcases set_get (show (w.ρ.set i (some d))[j]? = _ from h2) with ⟨e, z⟩ | ⟨e, z⟩
    · subst e
      rw [hi] at h1
      cases h1
      cases hk
    · obtain ⟨u, g1, g2⟩ := ok.fz j d' h1 z
      exact ⟨u, (hsv j).trans g1, g2⟩
  · rcases set_get (show (w.ρ.set i (some d))[j]? = _ from h3) with ⟨e, z⟩ | ⟨e, z⟩
    · subst e
      cases z
      exact ⟨p, (hsv i).trans hs, hF, o, upd_same, r⟩
    · obtain ⟨c, g1, g2, u, g3, g4⟩ := ok.ow j k' d' h1 h2 z
      have hc : c ≠ p := fun y => by
        subst y
        exact e (ok.ap i j c at_i ⟨k', d', h1, h2, z, g1⟩)
      exact ⟨c, (hsv j).trans g1, g2, u, by show upd w.H p o c = _; rw [upd_ne hc]; exact g3, g4⟩
  · obtain ⟨a0, a1, ⟨C, dx, fs, a2, a3⟩, a4, a5, a6⟩ := ok.obj e
    have hd : dx ≠ p := fun z => by
      obtain ⟨q, y1, y2, u, y3, y4⟩ := ok.ow i k d0 hi hk h0
      rw [hs] at y1
      cases y1
      rw [← z, a3] at y3
      cases y3
      cases d0 <;> first | exact y4.elim | (obtain ⟨_, y5, _⟩ := y4; cases y5)
    exact ⟨a0, a1, ⟨C, dx, fs, (hO e).trans a2, by show upd w.H p o dx = _; rw [upd_ne hd]; exact a3⟩, a4, fun ⟨j, h⟩ => a5 ⟨j, back h⟩, fun C dx fs z => a6 C dx fs ((hO e).symm.trans z)⟩
  · refine .of ?_
    show upd w.H p o b = some u
    have hc : b ≠ p := fun y => by
      subst y
      exact z ⟨i, at_i⟩
    rw [upd_ne hc]
    exact hb
  · have e : i ≠ j := fun y => by
      subst y
      rw [hi] at h1
      cases h1
      rw [hl] at h2
      cases h2
    exact List.getElem?_set_ne e
  · have hq : q ≠ p := fun y => by
      subst y
      have e := ok.ap j i q ⟨k', d', h1, Kd.own_of h2, h3, h4⟩ at_i
      subst e
      rw [hi] at h1
      cases h1
      rw [hl] at h2
      cases h2
    exact upd_ne hq
  · have y : upd w.H p o (ob O w.σ) = none := y
    rw [hO e] at y
    exact z y
end
def tG (K : PySem.W.Frag) (O : List Kd) (g : MG) (is : List Nat) : TG := fun v σ H Q => ∃ F ρ d ρ', Ok K O ⟨F, H, σ, ρ⟩ ∧ Rp K F d v ∧ g d ρ = some ρ' ∧
  ∀ σ', Ok K O ⟨F, H, σ', ρ'⟩ → Stp O ⟨F, H, σ, ρ⟩ ⟨F, H, σ', ρ'⟩ → (∀ j, j ∉ is → σ'[j]? = σ[j]?) → Q σ' H
def mgN (i : Nat) : MG := fun d ρ => some (ρ.set i (some d))
def mgNil : List D → En → Option En := fun ds ρ => match ds with
  | [] => some ρ
  | _ => none
def mgCons (g : MG) (r : List D → En → Option En) : List D → En → Option En := fun ds ρ => match ds with
  | d :: ds => (g d ρ).bind (r ds)
  | _ => none
def mgT (n : Nat) (r : List D → En → Option En) : MG := fun d ρ => match d with
  | .tuple ds => if ds.length = n then r ds ρ else none
  | _ => none
def mgL (n : Nat) (r : List D → En → Option En) : MG := fun d ρ => match d with
  | .list ds => if ds.length = n then r ds ρ else none
  | _ => none
section
variable {X : Cx} {O : List Kd} {e : Expr} {es : List Expr} {x : Str} {pos : Pos} {g : MG} {gs : List D → En → Option En} {is js : List Nat}
theorem PGi {t t' : TG} {tg : Expr} (h : PG X tg t) (k : ∀ v σ H Q, t' v σ H Q → t v σ H Q) : PG X tg t' := ⟨fun pins s σ H v u Q I r q => h.run pins s σ H v u Q I r (k v σ H Q q)⟩
theorem PGsi {t t' : TGs} {tg : List Expr} (h : PGs X tg t) (k : ∀ v σ H Q, t' v σ H Q → t v σ H Q) : PGs X tg t' := ⟨fun pins s σ H v u Q I r q => h.run pins s σ H v u Q I r (k v σ H Q q)⟩
theorem g_name (i : Nat) (hN : X.N.Nodup) (hO : O[i]? = some Kd.fz := by rfl) (hl : i < nl O := by decide) (h0 : hasO O = false ∨ i ≠ oi O := by decide) (hi : X.N[i]? = some x := by rfl) (hx : Loc X.env.scope x := by first | exact Or.inl rfl | exact Or.inr rfl) (hf : X.fn x = true ∨ X.env.scope.names.lookup x = some .local := by first | exact .inl rfl | exact .inr rfl | assumption) :
    PG X (.Name x pos) (tG X.K O (mgN i) [i]) := by
  refine PGi (pg_name hN hi hx hf) fun v σ H Q q => ?_
  obtain ⟨F, ρ, d, ρ', ok, r, hg, k⟩ := q
  cases hg
  obtain ⟨h1, h2⟩ := ok.setFz hO hl h0 r
  exact k _ h1 h2 fun j hj => List.getElem?_set_ne fun e => hj (by rw [e]; exact List.mem_singleton.mpr rfl)
end
def tS (K : PySem.W.Frag) (O : List Kd) (m : MS) (r : Ak) : TS := fun Dn σ H => ∃ F ρ fl ρ', Ok K O ⟨F, H, σ, ρ⟩ ∧ m ρ = some (fl, ρ') ∧ (match fl with
  | .nx => ∀ σ' F' H', Ok K O ⟨F', H', σ', ρ'⟩ → StpS O ⟨F, H, σ, ρ⟩ ⟨F', H', σ', ρ'⟩ → Dn.nx σ' H'
  | .bk => ∀ σ' F' H', Ok K O ⟨F', H', σ', ρ'⟩ → StpS O ⟨F, H, σ, ρ⟩ ⟨F', H', σ', ρ'⟩ → Dn.bk σ' H'
  | .ct => ∀ σ' F' H', Ok K O ⟨F', H', σ', ρ'⟩ → StpS O ⟨F, H, σ, ρ⟩ ⟨F', H', σ', ρ'⟩ → Dn.ct σ' H'
  | .rt d => ∀ v σ' F' H', Ok K O ⟨F', H', σ', ρ'⟩ → StpS O ⟨F, H, σ, ρ⟩ ⟨F', H', σ', ρ'⟩ → Rs K O ⟨F, H, σ, ρ⟩ ⟨F', H', σ', ρ'⟩ r d v → Dn.rt v H')
theorem PSi {X : Cx} {st : Stmt} {t t' : TS} (h : PS X st t) (k : ∀ Dn σ H, t' Dn σ H → t Dn σ H) : PS X st t' := ⟨fun pins s σ H Dn I q => h.run pins s σ H Dn I (k Dn σ H q)⟩
theorem PSsi {X : Cx} {st : List Stmt} {t t' : TS} (h : PSs X st t) (k : ∀ Dn σ H, t' Dn σ H → t Dn σ H) : PSs X st t' := ⟨fun pins s σ H Dn I q => h.run pins s σ H Dn I (k Dn σ H q)⟩
def mSkip : MS := fun ρ => some (.nx, ρ)
def mBreak : MS := fun ρ => some (.bk, ρ)
def mCont : MS := fun ρ => some (.ct, ρ)
def mSeq (a b : MS) : MS := fun ρ => (a ρ).bind fun p => match p.1 with
  | .nx => b p.2
  | f => some (f, p.2)
def mDrop (m : M) : MS := fun ρ => (m ρ).map fun p => (.nx, p.2)
def mRet (m : M) : MS := fun ρ => (m ρ).map fun p => (.rt p.1, p.2)
def mIte (c : MT) (a b : MS) : MS := fun ρ => (c ρ).bind fun p => if p.1 = true then a p.2 else b p.2
def mSet (i : Nat) (m : M) : MS := fun ρ => (m ρ).map fun p => (.nx, p.2.set i (some p.1))
def mAsg (g : MG) (m : M) : MS := fun ρ => (m ρ).bind fun p => (g p.1 p.2).map fun ρ' => (.nx, ρ')
def mNever : MS := fun _ => none
section
variable {X : Cx} {O : List Kd} {r : Ak} {st : Stmt} {rest : List Stmt} {e : Expr} {m : M} {a b : MS} {c : MT} {k : Ak} {pos : Pos} {x : Str} {i : Nat} {g : MG} {is : List Nat}
theorem s_nil : PSs X [] (tS X.K O mSkip r) := PSsi pss_nil fun Dn σ H ⟨F, ρ, fl, ρ', ok, hm, q⟩ => by
  cases hm
  exact q σ F H ok (StpS.refl _ _)
theorem s_never : PS X st (tS X.K O mNever r) := PSi ps_never fun Dn σ H ⟨F, ρ, fl, ρ', ok, hm, q⟩ => by cases hm
theorem s_cons (h1 : PS X st (tS X.K O a r)) (h2 : PSs X rest (tS X.K O b r)) : PSs X (st :: rest) (tS X.K O (mSeq a b) r) := by
  refine PSsi (pss_cons h1 h2) fun Dn σ H ⟨F, ρ, fl, ρ', ok, hm, q⟩ => ?_
  obtain ⟨⟨f1, ρ1⟩, e1, e2⟩ := bind_some hm
  refine ⟨F, ρ, f1, ρ1, ok, e1, ?_⟩
  cases f1 with
  | nx =>
    intro σ1 F1 H1 ok1 st1
    refine ⟨F1, ρ1, fl, ρ', ok1, e2, ?_⟩
    cases fl with
    | nx => exact fun σ2 F2 H2 ok2 st2 => q σ2 F2 H2 ok2 (st1.trans st2)
    | bk => exact fun σ2 F2 H2 ok2 st2 => q σ2 F2 H2 ok2 (st1.trans st2)
    | ct => exact fun σ2 F2 H2 ok2 st2 => q σ2 F2 H2 ok2 (st1.trans st2)
    | rt d => exact fun v σ2 F2 H2 ok2 st2 r2 => q v σ2 F2 H2 ok2 (st1.trans st2) (r2.pre st1)
  | bk =>
    cases e2
    exact q
  | ct =>
    cases e2
    exact q
  | rt d =>
    cases e2
    exact q
theorem s_one (h1 : PS X st (tS X.K O a r)) : PSs X [st] (tS X.K O a r) := pss_one h1
theorem s_expr (h : PE X e (tE X.K O m k)) (hs : swapsWith e none pos.line X.env = pure false := by rfl) : PS X (.Expr e pos) (tS X.K O (mDrop m) r) := by
  refine PSi (ps_expr h hs) fun Dn σ H ⟨F, ρ, fl, ρ', ok, hm, q⟩ => ?_
  obtain ⟨⟨d, ρ1⟩, e1, e2⟩ := map_some hm
  cases e2
  exact ⟨F, ρ, d, ρ1, ok, e1, fun v F1 H1 ok1 st1 _ => q σ F1 H1 ok1 st1⟩
theorem s_ret (h : PE X e (tE X.K O m r)) : PS X (.Return (some e) pos) (tS X.K O (mRet m) r) := by
  refine PSi (ps_ret h) fun Dn σ H ⟨F, ρ, fl, ρ', ok, hm, q⟩ => ?_
  obtain ⟨⟨d, ρ1⟩, e1, e2⟩ := map_some hm
  cases e2
  exact ⟨F, ρ, d, ρ1, ok, e1, fun v F1 H1 ok1 st1 r1 => q v σ F1 H1 ok1 st1 r1⟩
theorem s_if {tc : Expr} {sa sb : List Stmt} (hc : PT X tc (tT X.K O c)) (ha : PSs X sa (tS X.K O a r)) (hb : PSs X sb (tS X.K O b r)) : PS X (.If tc sa sb pos) (tS X.K O (mIte c a b) r) := by
  refine PSi (ps_if hc ha hb) fun Dn σ H ⟨F, ρ, fl, ρ', ok, hm, q⟩ => ?_
  obtain ⟨⟨t, ρ1⟩, e1, e2⟩ := bind_some hm
  refine ⟨F, ρ, t, ρ1, ok, e1, fun F1 H1 ok1 st1 => ?_⟩
  cases t with
  | true =>
    rw [if_pos rfl] at e2 ⊢
    refine ⟨F1, ρ1, fl, ρ', ok1, e2, ?_⟩
    cases fl with
    | nx => exact fun σ2 F2 H2 ok2 st2 => q σ2 F2 H2 ok2 (st1.toStpS.trans st2)
    | bk => exact fun σ2 F2 H2 ok2 st2 => q σ2 F2 H2 ok2 (st1.toStpS.trans st2)
    | ct => exact fun σ2 F2 H2 ok2 st2 => q σ2 F2 H2 ok2 (st1.toStpS.trans st2)
    | rt d => exact fun v σ2 F2 H2 ok2 st2 r2 => q v σ2 F2 H2 ok2 (st1.toStpS.trans st2) (r2.pre st1)
  | false =>
    rw [if_neg Bool.false_ne_true] at e2 ⊢
    refine ⟨F1, ρ1, fl, ρ', ok1, e2, ?_⟩
    cases fl with
    | nx => exact fun σ2 F2 H2 ok2 st2 => q σ2 F2 H2 ok2 (st1.toStpS.trans st2)
    | bk => exact fun σ2 F2 H2 ok2 st2 => q σ2 F2 H2 ok2 (st1.toStpS.trans st2)
    | ct => exact fun σ2 F2 H2 ok2 st2 => q σ2 F2 H2 ok2 (st1.toStpS.trans st2)
    | rt d => exact fun v σ2 F2 H2 ok2 st2 r2 => q v σ2 F2 H2 ok2 (st1.toStpS.trans st2) (r2.pre st1)
theorem asgFz {K : PySem.W.Frag} {Dn : Ends} {σ : L2.St} {H : Hp} (hO : O[i]? = some Kd.fz) (hl : i < nl O) (h0 : hasO O = false ∨ i ≠ oi O) (h : tS K O (mSet i m) r Dn σ H) : tAsg (tE K O m .fz) (gName i) Dn σ H := by
  obtain ⟨F, ρ, fl, ρ', ok, hm, q⟩ := h
  obtain ⟨⟨d, ρ1⟩, e1, e2⟩ := map_some hm
  cases e2
  refine ⟨F, ρ, d, ρ1, ok, e1, fun v F1 H1 ok1 st1 r1 => ?_⟩
  obtain ⟨h1, h2⟩ := ok1.setFz hO hl h0 r1
  exact q _ F1 H1 h1 (st1.trans h2)
theorem asgOw {K : PySem.W.Frag} {Dn : Ends} {σ : L2.St} {H : Hp} (hO : O[i]? = some Kd.ow) (hl : i < nl O) (h0 : hasO O = false ∨ i ≠ oi O) (h : tS K O (mSet i m) r Dn σ H) : tAsg (tE K O m .ow) (gName i) Dn σ H := by
  obtain ⟨F, ρ, fl, ρ', ok, hm, q⟩ := h
  obtain ⟨⟨d, ρ1⟩, e1, e2⟩ := map_some hm
  cases e2
  refine ⟨F, ρ, d, ρ1, ok, e1, fun v F1 H1 ok1 st1 r1 => ?_⟩
  obtain ⟨p, rfl, r1, r2, r3, r4, r5⟩ := r1
  obtain ⟨h1, h2, h3, h4⟩ := ok1.setOw (p := p) hO hl h0 r1 r2 r3 r5
  refine q _ F1 H1 h1 ⟨st1.ex, st1.kp, st1.nw, fun b hb => ?_, fun j kk g1 g2 => (h3 j kk g1 g2).1.trans (st1.pn j kk g1 g2), fun j kk g1 g2 => ?_, st1.lo, fun e => ⟨(h4 e).trans (st1.o0 e).1, (st1.o0 e).2⟩, st1.tb⟩
  · rcases h2 b hb with z | z
    · rw [z]
      exact r4
    · exact st1.fp b z
  · have gp : kk.pin = true := by
      cases kk <;> first | rfl | cases g2
    exact (h3 j kk g1 gp).2.trans (st1.lk j kk g1 g2)
theorem s_setF (i : Nat) {pos' : Pos} (hN : X.N.Nodup) (he : PE X e (tE X.K O m .fz)) (hO : O[i]? = some Kd.fz := by rfl) (hl : i < nl O := by decide) (h0 : hasO O = false ∨ i ≠ oi O := by decide) (hi : X.N[i]? = some x := by rfl) (hx : Loc X.env.scope x := by first | exact Or.inl rfl | exact Or.inr rfl) (hs : swapsWith e (some (.Name x pos')) pos.line X.env = pure false := by rfl) (hf : X.fn x = true ∨ X.env.scope.names.lookup x = some .local := by first | exact .inl rfl | exact .inr rfl | assumption) :
    PS X (.Assign [.Name x pos'] e pos) (tS X.K O (mSet i m) r) := PSi (ps_set hN hi hx he hs hf) fun _ _ _ h => asgFz hO hl h0 h
theorem s_setO (i : Nat) {pos' : Pos} (hN : X.N.Nodup) (he : PE X e (tE X.K O m .ow)) (hO : O[i]? = some Kd.ow := by rfl) (hl : i < nl O := by decide) (h0 : hasO O = false ∨ i ≠ oi O := by decide) (hi : X.N[i]? = some x := by rfl) (hx : Loc X.env.scope x := by first | exact Or.inl rfl | exact Or.inr rfl) (hs : swapsWith e (some (.Name x pos')) pos.line X.env = pure false := by rfl) (hf : X.fn x = true ∨ X.env.scope.names.lookup x = some .local := by first | exact .inl rfl | exact .inr rfl | assumption) :
    PS X (.Assign [.Name x pos'] e pos) (tS X.K O (mSet i m) r) := PSi (ps_set hN hi hx he hs hf) fun _ _ _ h => asgOw hO hl h0 h
def mAug (i : Nat) (m : M) (op : List D → Option D) : MS := fun ρ => match ρ[i]? with
  | some (some d) => (m ρ).bind fun p => (op [d, p.1]).map fun z => (.nx, p.2.set i (some z))
  | _ => none
end
def lkOf : List Kd → List Kd → Bool
  | [], [] => true
  | a :: as, b :: bs => (decide (a = b) || (decide (a = .ow) && decide (b = .lk)) || (decide (a = .io) && decide (b = .li))) && lkOf as bs
  | _, _ => false
def Lk1 (a b : Kd) : Prop := a = b ∨ (a = .ow ∧ b = .lk) ∨ (a = .io ∧ b = .li)
theorem lk_get : ∀ {O L : List Kd} {i : Nat}, lkOf O L = true → (∀ a, O[i]? = some a → ∃ b, L[i]? = some b ∧ Lk1 a b) ∧ (∀ b, L[i]? = some b → ∃ a, O[i]? = some a ∧ Lk1 a b)
  | [], [], i, _ => ⟨fun a h => by simp at h, fun b h => by simp at h⟩
  | a :: as, b :: bs, i, h => by
    obtain ⟨h1, h2⟩ := Bool.and_eq_true_iff.mp (show (_ && lkOf as bs) = true from h)
    have e : Lk1 a b := by
      unfold Lk1
      simpa [or_assoc] using h1
    cases i with
    | zero =>
      refine ⟨fun c hc => ?_, fun c hc => ?_⟩
      · have hc : a = c := by simpa using hc
        subst hc
        exact ⟨b, by simp, e⟩
      · have hc : b = c := by simpa using hc
        subst hc
        exact ⟨a, by simp, e⟩
    | succ i =>
      have q := lk_get (i := i) h2
      simpa using q
  | [], b :: bs, _, h => by cases h
  | a :: as, [], _, h => by cases h
theorem lk_len : ∀ {O L : List Kd}, lkOf O L = true → O.length = L.length
  | [], [], _ => rfl
  | a :: as, b :: bs, h => by
    obtain ⟨h1, h2⟩ := Bool.and_eq_true_iff.mp (show (_ && lkOf as bs) = true from h)
    rw [List.length_cons, List.length_cons, lk_len h2]
  | [], b :: bs, h => by cases h
  | a :: as, [], h => by cases h
theorem Lk1.own {a b : Kd} (h : Lk1 a b) : a.own = b.own := by
  rcases h with h | ⟨h1, h2⟩ | ⟨h1, h2⟩
  · rw [h]
  · rw [h1, h2] <;> rfl
  · rw [h1, h2] <;> rfl
theorem Lk1.pin {a b : Kd} (h : Lk1 a b) (p : a.pin = true) : b.pin = true := by
  rcases h with h | ⟨h1, h2⟩ | ⟨h1, h2⟩
  · rw [← h]
    exact p
  · rw [h2] <;> rfl
  · rw [h2] <;> rfl
theorem Lk1.lock {a b : Kd} (h : Lk1 a b) (p : a.lock = true) : b.lock = true := by
  rcases h with h | ⟨h1, h2⟩ | ⟨h1, h2⟩
  · rw [← h]
    exact p
  · rw [h2] <;> rfl
  · rw [h2] <;> rfl
section
variable {K : PySem.W.Frag} {O L : List Kd} {w w' : Wd}
theorem lk_cell (hl : lkOf O L = true) (k : Nat) (c : Str) (as : List Str) : O.getLast? = some (.cell k c as) ↔ L.getLast? = some (.cell k c as) := by
  rw [List.getLast?_eq_getElem?, List.getLast?_eq_getElem?, ← lk_len hl]
  constructor
  · intro h
    obtain ⟨b, g1, g2⟩ := (lk_get hl).1 _ h
    rcases g2 with g2 | ⟨g2, _⟩ | ⟨g2, _⟩
    · rw [g1, g2]
    · cases g2
    · cases g2
  · intro h
    obtain ⟨b, g1, g2⟩ := (lk_get hl).2 _ h
    rcases g2 with g2 | ⟨_, g2⟩ | ⟨_, g2⟩
    · rw [g1, g2]
    · cases g2
    · cases g2
theorem hasO_iff {O : List Kd} : hasO O = true ↔ ∃ k c as, O.getLast? = some (.cell k c as) := by
  unfold hasO
  split
  · rename_i k c as e
    exact ⟨fun _ => ⟨k, c, as, e⟩, fun _ => rfl⟩
  · rename_i y
    exact ⟨fun z => (by cases z), fun z => by
      obtain ⟨k, c, as, z⟩ := z
      exact (y k c as z).elim⟩
theorem lk_has (hl : lkOf O L = true) : hasO L = hasO O := by
  have h : hasO L = true ↔ hasO O = true := by
    rw [hasO_iff, hasO_iff]
    exact ⟨fun ⟨k, c, as, z⟩ => ⟨k, c, as, (lk_cell hl k c as).mpr z⟩, fun ⟨k, c, as, z⟩ => ⟨k, c, as, (lk_cell hl k c as).mp z⟩⟩
  exact Bool.eq_iff_iff.mpr h
theorem lk_ats (hl : lkOf O L = true) : ats L = ats O := by
  cases e : hasO O with
  | false => rw [no_ats e, no_ats ((lk_has hl).trans e)]
  | true =>
    obtain ⟨k, c, as, z⟩ := hasO_iff.mp e
    unfold ats
    rw [z, (lk_cell hl k c as).mp z]
theorem no_oi {O : List Kd} (h : hasO O = false) : oi O = 0 := by
  unfold oi
  split
  · rename_i k c as e
    have := hasO_iff.mpr ⟨k, c, as, e⟩
    rw [h] at this
    cases this
  · rfl
theorem nl_no {O : List Kd} (h : hasO O = false) : nl O = O.length := by
  unfold nl
  rw [h]
  rfl
theorem sv_no {O : List Kd} {H : Hp} {σ : L2.St} {i : Nat} (h : hasO O = false) (hs : σ.length = O.length) : sv O H σ i = σ[i]? := by
  by_cases hi : i < nl O
  · exact sv_loc hi
  · have hi2 : σ.length ≤ i := by
      rw [nl_no h] at hi
      omega
    rw [List.getElem?_eq_none hi2]
    unfold sv
    rw [if_neg hi, no_ats h]
    rfl
theorem StpS.no {O : List Kd} {w w' : Wd} (h : hasO O = false) (st : StpS O w w') : Stp O w w' := ⟨st, fun e => by rw [h] at e; cases e⟩
theorem lk_oi (hl : lkOf O L = true) : oi L = oi O := by
  cases e : hasO O with
  | false => rw [no_oi e, no_oi ((lk_has hl).trans e)]
  | true =>
    obtain ⟨k, c, as, z⟩ := hasO_iff.mp e
    unfold oi
    rw [z, (lk_cell hl k c as).mp z]
theorem no_cn {O : List Kd} (h : hasO O = false) : cn O = Str.empty := by
  unfold cn
  split
  · rename_i k c as e
    have := hasO_iff.mpr ⟨k, c, as, e⟩
    rw [h] at this
    cases this
  · rfl
theorem lk_cn (hl : lkOf O L = true) : cn L = cn O := by
  cases e : hasO O with
  | false => rw [no_cn e, no_cn ((lk_has hl).trans e)]
  | true =>
    obtain ⟨k, c, as, z⟩ := hasO_iff.mp e
    unfold cn
    rw [z, (lk_cell hl k c as).mp z]
theorem lk_ob (hl : lkOf O L = true) (σ : L2.St) : ob L σ = ob O σ := by
  unfold ob
  rw [lk_oi hl]
theorem lk_nl (hl : lkOf O L = true) : nl L = nl O := by
  unfold nl
  rw [lk_has hl, lk_ats hl, lk_len hl]
theorem lk_sv (hl : lkOf O L = true) {H : Hp} {σ : L2.St} {i : Nat} : sv L H σ i = sv O H σ i := by
  unfold sv
  rw [lk_nl hl, lk_ats hl, lk_ob hl]
theorem lk_at (hl : lkOf O L = true) {i : Nat} {p : Addr} : OwnAt L w i p ↔ OwnAt O w i p := by
  constructor
  · rintro ⟨k, d, h1, h2, h3, h4⟩
    obtain ⟨a, g1, g2⟩ := (lk_get hl).2 k h1
    exact ⟨a, d, g1, g2.own.trans h2, h3, (lk_sv hl).symm.trans h4⟩
  · rintro ⟨k, d, h1, h2, h3, h4⟩
    obtain ⟨a, g1, g2⟩ := (lk_get hl).1 k h1
    exact ⟨a, d, g1, g2.own.symm.trans h2, h3, (lk_sv hl).trans h4⟩
theorem lk_fp (hl : lkOf O L = true) {p : Addr} : Fp L w p ↔ Fp O w p :=
  ⟨fun ⟨i, h⟩ => ⟨i, (lk_at hl).mp h⟩, fun ⟨i, h⟩ => ⟨i, (lk_at hl).mpr h⟩⟩
theorem lk_obj (hl : lkOf O L = true) : ObOk K L w ↔ ObOk K O w := by
  have e := lk_ob hl w.σ
  constructor
  · rintro ⟨a0, a1, a2, a3, a4, a5⟩
    rw [e] at a0 a2 a3 a4 a5
    rw [lk_cn hl, lk_ats hl] at a5
    rw [lk_oi hl] at a0 a1
    rw [lk_nl hl] at a1
    exact ⟨a0, a1, a2, a3, fun z => a4 ((lk_fp hl).mpr z), a5⟩
  · rintro ⟨a0, a1, a2, a3, a4, a5⟩
    rw [← e] at a0 a2 a3 a4 a5
    rw [← lk_cn hl, ← lk_ats hl] at a5
    rw [← lk_oi hl] at a0 a1
    rw [← lk_nl hl] at a1
    exact ⟨a0, a1, a2, a3, fun z => a4 ((lk_fp hl).mp z), a5⟩
theorem Ok.lock (hl : lkOf O L = true) (ok : Ok K O w) : Ok K L w := by
  refine ⟨ok.sub, ok.ls.trans (lk_nl hl).symm, ok.lr.trans (lk_len hl), fun i d h1 h2 => ?_, fun i k d h1 h2 h3 => ?_, fun i j p h1 h2 => ok.ap i j p ((lk_at hl).mp h1) ((lk_at hl).mp h2), fun e => ?_, ok.tb⟩
  · obtain ⟨a, g1, g2⟩ := (lk_get hl).2 _ h1
    rcases g2 with g2 | ⟨g2, g3⟩ | ⟨g2, g3⟩
    · rw [g2] at g1
      obtain ⟨v, y1, y2⟩ := ok.fz i d g1 h2
      exact ⟨v, (lk_sv hl).trans y1, y2⟩
    · cases g3
    · cases g3
  · obtain ⟨a, g1, g2⟩ := (lk_get hl).2 _ h1
    obtain ⟨v, y1, y2⟩ := ok.ow i a d g1 (g2.own.trans h2) h3
    exact ⟨v, (lk_sv hl).trans y1, y2⟩
  · exact (lk_obj hl).mpr (ok.obj ((lk_has hl).symm.trans e))
theorem Ok.unlock (hl : lkOf O L = true) (ok : Ok K L w) : Ok K O w := by
  refine ⟨ok.sub, ok.ls.trans (lk_nl hl), ok.lr.trans (lk_len hl).symm, fun i d h1 h2 => ?_, fun i k d h1 h2 h3 => ?_, fun i j p h1 h2 => ok.ap i j p ((lk_at hl).mpr h1) ((lk_at hl).mpr h2), fun e => ?_, ok.tb⟩
  · obtain ⟨a, g1, g2⟩ := (lk_get hl).1 _ h1
    rcases g2 with g2 | ⟨g2, g3⟩ | ⟨g2, g3⟩
    · rw [← g2] at g1
      obtain ⟨v, y1, y2⟩ := ok.fz i d g1 h2
      exact ⟨v, (lk_sv hl).symm.trans y1, y2⟩
    · cases g2
    · cases g2
  · obtain ⟨a, g1, g2⟩ := (lk_get hl).1 _ h1
    obtain ⟨v, y1, y2⟩ := ok.ow i a d g1 (g2.own.symm.trans h2) h3
    exact ⟨v, (lk_sv hl).symm.trans y1, y2⟩
  · exact (lk_obj hl).mp (ok.obj ((lk_has hl).trans e))
theorem StpS.unlock (hl : lkOf O L = true) (st : StpS L w w') : StpS O w w' where
  ex := st.ex
  kp := fun b o h z y => st.kp b o h (fun q => z ((lk_fp hl).mp q)) fun e => by rw [lk_ob hl]; exact y ((lk_has hl).symm.trans e)
  nw := fun b o h z => st.nw b o h fun q => z ((lk_fp hl).mp q)
  fp := fun b h => by
    rcases st.fp b ((lk_fp hl).mpr h) with q | q
    · exact .inl ((lk_fp hl).mp q)
    · exact .inr q
  pn := fun i k h1 h2 => by
    obtain ⟨a, g1, g2⟩ := (lk_get hl).1 k h1
    exact (lk_sv hl).symm.trans ((st.pn i a g1 (g2.pin h2)).trans (lk_sv hl))
  lk := fun i k h1 h2 => by
    obtain ⟨a, g1, g2⟩ := (lk_get hl).1 k h1
    exact st.lk i a g1 (g2.lock h2)
  lo := fun i k p d h1 h2 h3 h4 => by
    obtain ⟨a, g1, g2⟩ := (lk_get hl).1 k h1
    exact st.lo i a p d g1 (g2.lock h2) h3 ((lk_sv hl).trans h4)
  o0 := fun e => by
    have z := st.o0 ((lk_has hl).trans e)
    rw [lk_ob hl, lk_ob hl] at z
    exact z
  tb := st.tb
theorem Stp.unlock (hl : lkOf O L = true) (st : Stp L w w') : Stp O w w' := ⟨st.toStpS.unlock hl, fun e => by
  have z := st.ost ((lk_has hl).trans e)
  rw [lk_ob hl] at z
  exact z⟩
theorem Rs.unlock (hl : lkOf O L = true) {k : Ak} {d : D} {v : V} (h : Rs K L w w' k d v) : Rs K O w w' k d v := by
  cases k with
  | fz => exact h
  | ow =>
    obtain ⟨p, e, h1, h2, h3, h4, h5⟩ := h
    refine ⟨p, e, h1, h2, fun z => h3 ((lk_fp hl).mpr z), ?_, fun e => by
      have z := h5 ((lk_has hl).trans e)
      rw [lk_ob hl] at z
      exact z⟩
    rcases h4 with h4 | h4
    · exact .inl ((lk_fp hl).mp h4)
    · exact .inr h4
  | br i =>
    obtain ⟨h1, q, h2, h3⟩ := h
    obtain ⟨a, g1, g2⟩ := (lk_get hl).2 q h2
    exact ⟨(lk_sv hl).symm.trans h1, a, g1, g2.own.trans h3⟩
end
def YD (K : PySem.W.Frag) (F0 : Hp) (ds : List D) : Nat → Hp → V → Hp → Prop := fun i H x H' => ∀ F, Same F0 F → Same F H → ∃ F', Pur F H F' H' ∧ ∃ d, ds[i]? = some d ∧ Rp K F' d x
structure Stq (O : List Kd) (Z : Addr → Prop) (w w' : Wd) : Prop where
  ex : Same w.F w'.F
  kp : ∀ b o, ¬ Z b → w.H b = some o → ¬ Fp O w b → (hasO O = true → b ≠ ob O w.σ) → KH o (w'.H b) ∧ ¬ Fp O w' b
  pn : ∀ (i : Nat) (k : Kd), O[i]? = some k → k.pin = true → w'.sv O i = w.sv O i
  lk : ∀ (i : Nat) (k : Kd), O[i]? = some k → k.lock = true → w'.ρ[i]? = w.ρ[i]?
  lo : ∀ (i : Nat) (k : Kd) (p : Addr) (d : D), O[i]? = some k → k.lock = true → w.ρ[i]? = some (some d) → w.sv O i = some (some (.ref p)) → w'.H p = w.H p
  o0 : hasO O = true → ob O w'.σ = ob O w.σ
theorem StpS.q {O : List Kd} {w w' : Wd} (st : StpS O w w') (Z : Addr → Prop) : Stq O Z w w' := ⟨st.ex, fun b o _ h n y => ⟨st.kp b o h n y, st.nofp h n⟩, st.pn, st.lk, st.lo, fun e => (st.o0 e).1⟩
theorem Stp.q {O : List Kd} {w w' : Wd} (st : Stp O w w') (Z : Addr → Prop) : Stq O Z w w' := st.toStpS.q Z
theorem Stq.step {O : List Kd} {Z : Addr → Prop} {w w1 w2 : Wd} (a : Stq O Z w w1) (b : StpS O w1 w2) : Stq O Z w w2 where
  ex := a.ex.trans b.ex
  kp := fun c o z h n y => by
    obtain ⟨h1, h2⟩ := a.kp c o z h n y
    obtain ⟨o', e'⟩ := h1.ex
    exact ⟨h1.trans fun o' h' => b.kp c o' h' h2 fun e => by rw [a.o0 e]; exact y e, b.nofp e' h2⟩
  pn := fun i k h1 h2 => (b.pn i k h1 h2).trans (a.pn i k h1 h2)
  lk := fun i k h1 h2 => (b.lk i k h1 h2).trans (a.lk i k h1 h2)
  lo := fun i k p d h1 h2 h3 h4 => (b.lo i k p d h1 h2 ((a.lk i k h1 h2).trans h3) ((a.pn i k h1 (Kd.pin_of h2)).trans h4)).trans (a.lo i k p d h1 h2 h3 h4)
  o0 := fun e => (b.o0 e).1.trans (a.o0 e)
theorem Stq.unlock {K : PySem.W.Frag} {O L : List Kd} {Z : Addr → Prop} {w w' : Wd} (hl : lkOf O L = true) (st : Stq L Z w w') : Stq O Z w w' where
  ex := st.ex
  kp := fun b o z h n y => by
    obtain ⟨h1, h2⟩ := st.kp b o z h (fun q => n ((lk_fp hl).mp q)) fun e => by rw [lk_ob hl]; exact y ((lk_has hl).symm.trans e)
    exact ⟨h1, fun q => h2 ((lk_fp hl).mpr q)⟩
  pn := fun i k h1 h2 => by
    obtain ⟨a, g1, g2⟩ := (lk_get hl).1 k h1
    exact (lk_sv hl).symm.trans ((st.pn i a g1 (g2.pin h2)).trans (lk_sv hl))
  lk := fun i k h1 h2 => by
    obtain ⟨a, g1, g2⟩ := (lk_get hl).1 k h1
    exact st.lk i a g1 (g2.lock h2)
  lo := fun i k p d h1 h2 h3 h4 => by
    obtain ⟨a, g1, g2⟩ := (lk_get hl).1 k h1
    exact st.lo i a p d g1 (g2.lock h2) h3 ((lk_sv hl).trans h4)
  o0 := fun e => by
    have z := st.o0 ((lk_has hl).trans e)
    rw [lk_ob hl, lk_ob hl] at z
    exact z
def Zok (O : List Kd) (w : Wd) (Z : Addr → Prop) : Prop := ∀ b, Z b → (∃ o, w.H b = some o) ∧ w.F b = none ∧ ¬ Fp O w b ∧ (hasO O = true → b ≠ ob O w.σ)
def Zno : Addr → Prop := fun _ => False
theorem zno {O : List Kd} {w : Wd} : Zok O w Zno := fun _ h => h.elim
def tI (K : PySem.W.Frag) (O L : List Kd) (m : MI) : TI := fun σ H R => ∃ F ρ ds ρ', Ok K O ⟨F, H, σ, ρ⟩ ∧ m ρ = some (ds, ρ') ∧
  ∀ J F' H' G, Ok K O ⟨F', H', σ, ρ'⟩ → Stp O ⟨F, H, σ, ρ⟩ ⟨F', H', σ, ρ'⟩ → Walk J ds.length G (YD K F' ds) → (∀ Z, Zok O ⟨F, H, σ, ρ⟩ Z → ∀ w2, Ok K L w2 → Stq L Z ⟨F', H', σ, ρ'⟩ w2 → G w2.H) → R J H'
def mForL : List D → MG → MS → MS
  | [], _, _ => fun ρ => some (.nx, ρ)
  | d :: ds, g, b => fun ρ => (g d ρ).bind fun ρ1 => (b ρ1).bind fun p => match p.1 with
    | .nx => mForL ds g b p.2
    | .ct => mForL ds g b p.2
    | .bk => some (.nx, p.2)
    | .rt d => some (.rt d, p.2)
def mFor (mi : MI) (g : MG) (b : MS) : MS := fun ρ => (mi ρ).bind fun p => mForL p.1 g b p.2
section
variable {X : Cx} {O L : List Kd} {tg iter e : Expr} {mi : MI} {g : MG} {is : List Nat} {b : MS} {r : Ak} {body : List Stmt} {pos : Pos}
theorem PIi {w w' : TI} (h : PI X tg e w) (k : ∀ σ H R, w' σ H R → w σ H R) : PI X tg e w' := ⟨fun pins s σ H R I q => h.run pins s σ H R I (k σ H R q)⟩
theorem drop_get {ds : List D} {i : Nat} {d : D} (h : ds[i]? = some d) : ds.drop i = d :: ds.drop (i + 1) := by
  obtain ⟨hi, e⟩ := List.getElem?_eq_some_iff.mp h
  rw [List.drop_eq_getElem_cons hi, e]
theorem s_for (hp : PassesOwn (model X.prog X.w) X.A X.env X.xe) (hc : X.calm = true) (hi : PI X tg iter (tI X.K O L mi)) (hg : PG X tg (tG X.K L g is)) (hb : PSs X body (tS X.K L b r)) (hl : lkOf O L = true := by rfl)
    (hs : ∀ x, foldedSetIterable iter X.env x = pure x := by intro _; rfl) : PS X (.For tg iter body [] pos) (tS X.K O (mFor mi g b) r) := by
  refine PSi (ps_for hp hc hi hg hb hs) fun Dn σ H ⟨F, ρ, fl, ρ', ok, hm, q⟩ => ?_
  obtain ⟨⟨ds, ρ1⟩, e1, e2⟩ := bind_some hm
  refine ⟨F, ρ, ds, ρ1, ok, e1, fun J F1 H1 G ok1 st1 wk hG => ?_⟩
  have e2 : mForL ds g b ρ1 = some (fl, ρ') := e2
  refine for_it wk (fun i σ2 H2 => ∃ F2 ρ2, Ok X.K L ⟨F2, H2, σ2, ρ2⟩ ∧ StpS L ⟨F1, H1, σ, ρ1⟩ ⟨F2, H2, σ2, ρ2⟩ ∧ mForL (ds.drop i) g b ρ2 = some (fl, ρ'))
    ⟨F1, ρ1, ok1.lock hl, StpS.refl _ _, e2⟩ (fun i σ2 H2 _ ⟨F2, ρ2, ok2, st2, _⟩ => hG Zno zno _ ok2 (st2.q _)) (fun i x σ2 H2 H3 hi ⟨F2, ρ2, ok2, st2, m2⟩ y => ?_) fun σ2 H2 ⟨F2, ρ2, ok2, st2, m2⟩ => ?_
  · obtain ⟨F3, pu, d, hd, rp⟩ := y F2 st2.ex ok2.sub
    rw [drop_get hd] at m2
    obtain ⟨ρ3, g1, g2⟩ := bind_some m2
    obtain ⟨⟨f, ρ4⟩, g3, g4⟩ := bind_some g2
    obtain ⟨ok3, st3⟩ := ok2.pur pu
    refine ⟨F3, ρ2, d, ρ3, ok3, rp, g1, fun σ3 ok4 st4 _ => ⟨F3, ρ3, f, ρ4, ok4, g3, ?_⟩⟩
    have go : StpS L _ _ := (st2.trans st3.toStpS).trans st4.toStpS
    cases f with
    | nx => exact fun σ5 F5 H5 ok5 st5 => ⟨F5, ρ4, ok5, go.trans st5, g4⟩
    | ct => exact fun σ5 F5 H5 ok5 st5 => ⟨F5, ρ4, ok5, go.trans st5, g4⟩
    | bk =>
      cases g4
      exact fun σ5 F5 H5 ok5 st5 => q σ5 F5 H5 (ok5.unlock hl) (st1.toStpS.trans ((go.trans st5).unlock hl))
    | rt d =>
      cases g4
      exact fun v σ5 F5 H5 ok5 st5 r5 => q v σ5 F5 H5 (ok5.unlock hl) (st1.toStpS.trans ((go.trans st5).unlock hl)) (((r5.pre go).unlock hl).pre st1.toStpS)
  · rw [List.drop_length] at m2
    cases m2
    exact q σ2 F2 H2 (ok2.unlock hl) (st1.toStpS.trans (st2.unlock hl))
def mItL (m : M) : MI := fun ρ => (m ρ).bind fun p => match p.1 with
  | .list ds => some (ds, p.2)
  | _ => none
def mItT (m : M) : MI := fun ρ => (m ρ).bind fun p => match p.1 with
  | .tuple ds => some (ds, p.2)
  | _ => none
def mItB (i : Nat) : MI := fun ρ => match ρ[i]? with
  | some (some (.list ds)) => some (ds, ρ)
  | _ => none
theorem itL_some {m : M} {ρ ρ' : En} {ds : List D} (h : mItL m ρ = some (ds, ρ')) : m ρ = some (.list ds, ρ') := by
  obtain ⟨⟨d, ρ1⟩, h1, h2⟩ := bind_some h
  cases d <;> cases h2
  exact h1
theorem itT_some {m : M} {ρ ρ' : En} {ds : List D} (h : mItT m ρ = some (ds, ρ')) : m ρ = some (.tuple ds, ρ') := by
  obtain ⟨⟨d, ρ1⟩, h1, h2⟩ := bind_some h
  cases d <;> cases h2
  exact h1
theorem yd_at {K : PySem.W.Frag} {F0 : Hp} {ds : List D} {xs : List V} (r : RpA K F0 ds xs) {i : Nat} {H : Hp} {x : V} {H' : Hp} (y : YAt xs i H x H') : YD K F0 ds i H x H' := fun F e s => by
  obtain ⟨rfl, y⟩ := y
  obtain ⟨d, h1, h2⟩ := r.getV y
  exact ⟨F, .refl s, d, h1, h2.mono e⟩
theorem walk_of_list {K : PySem.W.Frag} {F0 : Hp} {ds : List D} {xs : List V} {a : Addr} (r : RpA K F0 ds xs) : Walk (Itl K a) ds.length (fun H => SqL K H a xs) (YD K F0 ds) := by
  rw [← r.length]
  exact walk_list.mono (fun _ h => h) fun i H x H' _ _ y => yd_at r y
theorem walk_of_tup {K : PySem.W.Frag} {F0 : Hp} {ds : List D} {xs : List V} {a : Addr} (r : RpA K F0 ds xs) : Walk (Itt K a) ds.length (fun H => SqT K H a xs) (YD K F0 ds) := by
  rw [← r.length]
  exact walk_tup.mono (fun _ h => h) fun i H x H' _ _ y => yd_at r y
theorem i_list {m : M} (h : PE X e (tE X.K O m .fz)) : PI X tg e (tI X.K O L (mItL m)) := by
  refine PIi (pi_list h) fun σ H R ⟨F, ρ, ds, ρ', ok, hm, q⟩ => ?_
  refine ⟨F, ρ, _, ρ', ok, itL_some hm, fun v F1 H1 ok1 st1 r1 => ?_⟩
  obtain ⟨a, xs, e1, h1, h2⟩ := r1
  refine ⟨a, e1, ⟨xs, ok1.sub.seq h1⟩, q _ F1 H1 _ ok1 st1 (walk_of_list h2) fun Z _ w2 ok2 st2 => ok2.sub.seq (st2.ex.seq h1)⟩
theorem i_tup {m : M} (h : PE X e (tE X.K O m .fz)) : PI X tg e (tI X.K O L (mItT m)) := by
  refine PIi (pi_tup h) fun σ H R ⟨F, ρ, ds, ρ', ok, hm, q⟩ => ?_
  refine ⟨F, ρ, _, ρ', ok, itT_some hm, fun v F1 H1 ok1 st1 r1 => ?_⟩
  obtain ⟨a, xs, e1, h1, h2⟩ := r1
  exact ⟨a, e1, ⟨xs, same_sqt ok1.sub h1⟩, q _ F1 H1 _ ok1 st1 (walk_of_tup h2) fun Z _ w2 ok2 st2 => same_sqt ok2.sub (same_sqt st2.ex h1)⟩
def dRng (lo : Int) (n : Nat) : List D := (List.range n).map fun (i : Nat) => PyData.int (lo + (i : Int))
theorem dRng_get {lo : Int} {n i : Nat} (h : i < n) : (dRng lo n)[i]? = some (.int (lo + (i : Int))) := by
  unfold dRng
  rw [List.getElem?_map, List.getElem?_range h]
  rfl
theorem dRng_len {lo : Int} {n : Nat} : (dRng lo n).length = n := by
  unfold dRng
  rw [List.length_map, List.length_range]
def mRng1 (ma : MA) : MI := fun ρ => (ma ρ).bind fun p => match p.1 with
  | [.int j] => if -(2 ^ 62) ≤ j ∧ j < 2 ^ 62 then some (dRng 0 j.toNat, p.2) else none
  | _ => none
def mRng2 (ma : MA) : MI := fun ρ => (ma ρ).bind fun p => match p.1 with
  | [.int i, .int j] => if -(2 ^ 62) ≤ i ∧ i < 2 ^ 62 ∧ -(2 ^ 62) ≤ j ∧ j < 2 ^ 62 then some (dRng i (j - i).toNat, p.2) else none
  | _ => none
theorem walk_of_range {K : PySem.W.Frag} {F0 : Hp} {lo : Int} {n : Nat} : Walk (Itr lo n) (dRng lo n).length (fun _ => True) (YD K F0 (dRng lo n)) := by
  rw [dRng_len]
  refine walk_range.mono (fun _ h => h) fun i H x H' hi _ y F e s => ?_
  obtain ⟨rfl, rfl⟩ := y
  exact ⟨F, .refl s, _, dRng_get hi, rfl⟩
theorem i_rng1 {a : Expr} {ma : MA} {p : Pos} (hm : X.mg "range" = none) (ha : PA X [a] (tA X.K O ma [.fz])) (hg : Gl X "range" := by rfl) (hs : starEach [a] X.env = [(false, eval a X.env)] := by rfl) : PI X tg (.Call (.Name "range" p) [a] [] pos) (tI X.K O L (mRng1 ma)) := by
  refine PIi (pi_range1 hg hm ha hs) fun σ H R ⟨F, ρ, ds, ρ', ok, hm, q⟩ => ?_
  obtain ⟨⟨as, ρ1⟩, e1, e2⟩ := bind_some hm
  refine ⟨F, ρ, as, ρ1, ok, e1, fun vs F1 H1 ok1 st1 r1 => ?_⟩
  dsimp only at e2
  split at e2
  · rename_i j
    split at e2
    · rename_i hj
      cases e2
      obtain ⟨r, _⟩ := r1.fz rfl
      obtain ⟨v, rfl, hv⟩ := r.one
      have hv : v = .int j := hv
      subst hv
      exact ⟨j, rfl, hj.1, hj.2, q _ F1 H1 _ ok1 st1 walk_of_range fun _ _ _ _ _ => trivial⟩
    · cases e2
  · cases e2
theorem i_rng2 {a c : Expr} {ma : MA} {p : Pos} (hm : X.mg "range" = none) (ha : PA X [a, c] (tA X.K O ma [.fz, .fz])) (hg : Gl X "range" := by rfl) (hs : starEach [a, c] X.env = [(false, eval a X.env), (false, eval c X.env)] := by rfl) (hs2 : starEach [c] X.env = [(false, eval c X.env)] := by rfl) :
    PI X tg (.Call (.Name "range" p) [a, c] [] pos) (tI X.K O L (mRng2 ma)) := by
  refine PIi (pi_range2 hg hm ha hs hs2) fun σ H R ⟨F, ρ, ds, ρ', ok, hm, q⟩ => ?_
  obtain ⟨⟨as, ρ1⟩, e1, e2⟩ := bind_some hm
  refine ⟨F, ρ, as, ρ1, ok, e1, fun vs F1 H1 ok1 st1 r1 => ?_⟩
  dsimp only at e2
  split at e2
  · rename_i i j
    split at e2
    · rename_i hj
      cases e2
      obtain ⟨r, _⟩ := r1.fz rfl
      obtain ⟨v, u, rfl, hv, hu⟩ := r.two
      have hv : v = .int i := hv
      have hu : u = .int j := hu
      subst hv hu
      exact ⟨i, j, rfl, hj, q _ F1 H1 _ ok1 st1 walk_of_range fun _ _ _ _ _ => trivial⟩
    · cases e2
  · cases e2
end
def whN (c : MT) (b : MS) : Nat → MS
  | 0 => fun _ => none
  | n + 1 => fun ρ => (c ρ).bind fun p => if p.1 = true then (b p.2).bind fun q => match q.1 with
      | .nx => whN c b n q.2
      | .ct => whN c b n q.2
      | .bk => some (.nx, q.2)
      | .rt d => some (.rt d, q.2)
    else some (.nx, p.2)
theorem whN_more {c : MT} {b : MS} : ∀ {n : Nat} {ρ : En} {x : Fl × En}, whN c b n ρ = some x → whN c b (n + 1) ρ = some x
  | 0, _, _, h => by cases h
  | n + 1, ρ, x, h => by
    obtain ⟨⟨t, ρ1⟩, h1, h2⟩ := bind_some h
    show (c ρ).bind _ = some x
    rw [h1]
    show (if t = true then _ else _) = some x
    have h2 : (if t = true then _ else _) = some x := h2
    cases t with
    | false => exact h2
    | true =>
      rw [if_pos rfl] at h2 ⊢
      obtain ⟨⟨f, ρ2⟩, h3, h4⟩ := bind_some h2
      rw [show b ρ1 = _ from h3]
      clear h3 h2
      cases f with
      | nx => exact whN_more h4
      | ct => exact whN_more h4
      | bk => exact h4
      | rt d => exact h4
theorem whN_le {c : MT} {b : MS} {ρ : En} {x : Fl × En} : ∀ {n m : Nat}, n ≤ m → whN c b n ρ = some x → whN c b m ρ = some x := fun {n m} h q => by
  induction h with
  | refl => exact q
  | step _ ih => exact whN_more ih
def whFuel : Nat := 100000000
def mWhile (c : MT) (b : MS) : MS := whN c b whFuel
theorem mWhile_of {c : MT} {b : MS} {n : Nat} {ρ : En} {x : Fl × En} (hn : n ≤ whFuel) (h : whN c b n ρ = some x) : mWhile c b ρ = some x := whN_le hn h
theorem mWhile_some {c : MT} {b : MS} {ρ : En} {x : Fl × En} (h : mWhile c b ρ = some x) : ∃ n, whN c b n ρ = some x := ⟨_, h⟩
section
variable {X : Cx} {O : List Kd} {e : Expr} {c : MT} {b : MS} {r : Ak} {body : List Stmt} {pos : Pos}
theorem s_while (hp : PassesOwn (model X.prog X.w) X.A X.env X.xe) (hc : PT X e (tT X.K O c)) (hb : PSs X body (tS X.K O b r)) : PS X (.While e body [] pos) (tS X.K O (mWhile c b) r) := by
  refine PSi (ps_while hp hc hb) fun Dn σ H ⟨F, ρ, fl, ρ', ok, hm, q⟩ => ?_
  obtain ⟨n, hn⟩ := mWhile_some hm
  refine ⟨fun m σ2 H2 => ∃ F2 ρ2, Ok X.K O ⟨F2, H2, σ2, ρ2⟩ ∧ StpS O ⟨F, H, σ, ρ⟩ ⟨F2, H2, σ2, ρ2⟩ ∧ whN c b m ρ2 = some (fl, ρ'), ⟨n, F, ρ, ok, StpS.refl _ _, hn⟩, fun m σ2 H2 ⟨F2, ρ2, ok2, st2, m2⟩ => ?_⟩
  cases m with
  | zero => cases m2
  | succ m =>
    obtain ⟨⟨t, ρ3⟩, h1, h2⟩ := bind_some m2
    refine ⟨F2, ρ2, t, ρ3, ok2, h1, fun F3 H3 ok3 st3 => ?_⟩
    have go : StpS O _ _ := st2.trans st3.toStpS
    cases t with
    | false =>
      dsimp only at h2 ⊢
      rw [if_neg Bool.false_ne_true] at h2 ⊢
      cases h2
      exact q σ2 F3 H3 ok3 go
    | true =>
      dsimp only at h2 ⊢
      rw [if_pos rfl] at h2 ⊢
      obtain ⟨⟨f, ρ4⟩, h3, h4⟩ := bind_some h2
      refine ⟨_, fun _ _ z => z, ?_⟩
      refine ⟨F3, ρ3, f, ρ4, ok3, h3, ?_⟩
      cases f with
      | nx => exact fun σ5 F5 H5 ok5 st5 => ⟨m, Nat.lt_succ_self m, F5, ρ4, ok5, go.trans st5, h4⟩
      | ct => exact fun σ5 F5 H5 ok5 st5 => ⟨m, Nat.lt_succ_self m, F5, ρ4, ok5, go.trans st5, h4⟩
      | bk =>
        cases h4
        exact fun σ5 F5 H5 ok5 st5 => q σ5 F5 H5 ok5 (go.trans st5)
      | rt d =>
        cases h4
        exact fun v σ5 F5 H5 ok5 st5 r5 => q v σ5 F5 H5 ok5 (go.trans st5) (r5.pre go)
end
structure FnG (P : Program) (w : World) (K : PySem.W.Frag) (mg : Str → Option Value) (base : Heap) (CX : CXT) (k : Nat) (f : Addr) (fd : FuncData) (ps : List Str) (sp : Sp) : Prop where
  ar : ∀ vs H Q E, sp vs H Q E → vs.length = ps.length
  go : ∀ (A : Around) (outer : List Env) (s : Shared) (H : Hp) (args : Args) (us : List Value) (vs : List V) (Q : VK) (E : XK), A.guards = some [] → Room k A → Env0 P w K mg base A outer s H → BindsTo s fd args (ps.zip us) →
    Vals vs us → sp vs H Q E → codeAny (model P w) A (.call (.ref f) args) (CR CX outer P w H s Q E) s
section
variable {P : Program} {w : World} {K : PySem.W.Frag} {mg : Str → Option Value} {base : Heap} {CX : CXT} {f : Addr} {fd : FuncData}
theorem FnG.up {j k : Nat} {ps : List Str} {sp : Sp} (G : FnG P w K mg base CX j f fd ps sp) (h : j ≤ k) : FnG P w K mg base CX k f fd ps sp :=
  ⟨G.ar, fun A outer s H args us vs Q E g hr => G.go A outer s H args us vs Q E g (hr.mono h)⟩
theorem FnG.imp {k : Nat} {ps : List Str} {sp sp' : Sp} (G : FnG P w K mg base CX k f fd ps sp) (h : ∀ vs H Q E, sp' vs H Q E → sp vs H Q E) : FnG P w K mg base CX k f fd ps sp' :=
  ⟨fun vs H Q E z => G.ar vs H Q E (h _ _ _ _ z), fun A outer s H args us vs Q E g hr e hb r z => G.go A outer s H args us vs Q E g hr e hb r (h _ _ _ _ z)⟩
theorem fnG_of {x qual : Str} {params : Arguments} {body : List Stmt} {scope : Scope} {dvs : List V} {kws : List (Str × V)} {N ps : List Str} {k : Nat} {sp : Sp} (F : FunD K x qual params body scope dvs kws f fd) (S : FnScope N ps scope)
    (ar : ∀ vs H Q E, sp vs H Q E → vs.length = ps.length)
    (hb : ∀ (cd : Value) (A : Around) (outer : List Env) (s : Shared) (H : Hp) (vs : List V) (Q : VK) (E : XK), A.guards = some [] → Room k (A.deeper (envOfC qual scope s.heap.objs.size f cd)) → sp vs H Q E →
      ∃ t, PSs (cxOf CX P w K mg base N qual scope f cd A outer s H E) body t ∧ t { nx := fun _ H' => Q .non H', rt := Q } (L2.start N vs) H) : FnG P w K mg base CX (k + 1) f fd ps sp := by
  obtain ⟨oc, od, dV, kV, doc, pm, an, cd, ct, osl, rfl, lk, code, _, _⟩ := F.ex
  refine ⟨ar, fun A outer s H args us vs Q E g hr e bt rv z => ?_⟩
  have cnt := ar _ _ _ _ z
  have inS : K.In s.heap := e.mod.kin.keeps fun b o h => (e.bs b o h).1
  have noLim : s.heap.NoLimit := e.mod.nolimit.keeps fun b o h => (e.bs b o h).1
  have kinds : ∀ y ∈ ps.zip us, scope.names.lookup y.1 = some .local ∨
      (scope.names.lookup y.1 = some .cell ∧ ((cellsFrom (s.heap.objs.size + 1) scope.names []).lookup y.1).isSome = true) := by
    rintro ⟨n, v⟩ hy
    rcases S.par n (List.of_mem_zip hy).1 with h | h
    · exact Or.inl h
    · exact Or.inr ⟨h, PySem.W.cellsFrom_some _ _ _ (Or.inl h)⟩
  refine codeAny_call_function hr.depth (inS _ _ lk) rfl S.co S.gen rfl (PySem.W.codeRec_of inS code) (bt _ _ _ _ ?_)
  refine wpAny_newFunctionEnv_cells S.kind kinds fun en he s1 q => ?_
  subst he
  refine ⟨noLim.keeps q.toInCall.keep, codeAny_func ?_⟩
  obtain ⟨t, ht, h0⟩ := hb cd A outer s H vs Q E g (hr.deeper _) z
  have I := inv_start (CX := CX) (E := E) (f := f) (cd := cd) (A := A) (outer := outer) (P := P) (w := w) (base := base) S hr.hd e cnt rv q
  refine wpAny_mono (ht.run [] s1 (L2.start N vs) H _ I h0) (fun fl s' hs => ?_) fun _ _ hs => hs
  cases fl with
  | ret u =>
    obtain ⟨v, σ', H', J, r, h⟩ := hs
    exact ⟨v, H', J.os, J.bare, J.base, J.hok, r, h⟩
  | next =>
    obtain ⟨σ', H', J, h⟩ := hs
    exact ⟨V.non, H', J.os, J.bare, J.base, J.hok, rfl, h⟩
  | brk =>
    obtain ⟨_, _, _, h⟩ := hs
    exact h.elim
  | cont =>
    obtain ⟨_, _, _, h⟩ := hs
    exact h.elim
end
section
variable {X : Cx} {CX : CXT} {k : Nat} {f : Addr} {fd : FuncData} {ps : List Str} {sp : Sp} {dvs : List V} {ds : List Value} {E : XK} {x : Str} {p pos : Pos} {e : Expr} {es : List Expr} {t : TA}
theorem goFn {pins : List (Addr × Obj)} {σ : L2.St} {H : Hp} {s : Shared} {Q : VK} {us : List Value} {vs : List V} (G : FnG X.prog X.w X.K X.mg X.base CX k f fd ps sp) (hgd : X.A.guards = some []) (hr : Room k X.A) (hb : Binds X.K fd ps ds) (hd : Vals dvs ds)
    (hx : Passes CX X E) (I : Inv X pins σ H s) (r : Vals vs us) (h : sp (vs ++ dvs) H Q E) : wpAny (model X.prog X.w) X.A (call (.ref f) us) (EP X pins σ Q) X.xe s := by
  have both : Vals (vs ++ dvs) (us ++ ds) := r.append hd
  have cnt : (us ++ ds).length = ps.length := both.length.symm.trans (G.ar _ _ _ _ h)
  refine wpAny_call (codeAny_mono (G.go X.A X.stack s H ⟨us, []⟩ (us ++ ds) (vs ++ dvs) Q E hgd hr I.env0 (hb s us I.kIn cnt) both h) fun res s' hq => ?_)
  rcases res with e | fl
  · exact hx pins σ H s e s' I hq
  · cases fl with
    | ret u => exact I.after hq
    | next => exact hq.elim
    | brk => exact hq.elim
    | cont => exact hq.elim
theorem pe_callG (G : FnG X.prog X.w X.K X.mg X.base CX k f fd ps sp) (hgd : X.A.guards = some []) (hr : Room k X.A) (hm : X.mg x = some (.ref f)) (hk : PySem.W.keepIn X.K (.ref f) = true) (hb : Binds X.K fd ps ds) (hd : Vals dvs ds) (hx : Passes CX X E)
    (ha : PA X (e :: es) t) (hg : Gl X x := by rfl) (hdb : (x == ("__debug__" : Str)) = false := by decide) (he : starEach (e :: es) X.env = (false, eval e X.env) :: starEach es X.env := by rfl) (hpl : (backTo pos (starEach es X.env)).any (·.1) = false := by rfl) :
    PE X (.Call (.Name x p) (e :: es) [] pos) (tCall sp dvs E t) := ⟨fun pins s σ H Q I h => wpAny_Call_Name_kw (ld_glob I hg hm
      (PySem.W.callWith_K (h₀ := X.base) I.ok.mod.kin hk (thn (ha.run pos pins s σ H _ I h) fun us s1 ⟨vs, H1, I1, r, q⟩ => ⟨I1.kIn, goFn G hgd hr hb hd hx I1 r q⟩) he hpl) hdb)⟩
end
def outE : List Kd → En → En
  | [], _ => []
  | k :: ks, [] => none :: outE ks []
  | k :: ks, r :: ρ => (if k = .io then r else none) :: outE ks ρ
theorem outE_get : ∀ {ks : List Kd} {ρ : En} {i : Nat} {d : D}, (outE ks ρ)[i]? = some (some d) → ks[i]? = some Kd.io ∧ ρ[i]? = some (some d)
  | [], _, _, _, h => by
    unfold outE at h
    simp at h
  | k :: ks, [], 0, _, h => by
    have h : (none :: outE ks [])[0]? = _ := h
    simp at h
  | k :: ks, [], i + 1, d, h => by
    have h : (none :: outE ks [])[i + 1]? = _ := h
    rw [List.getElem?_cons_succ] at h
    have z := (outE_get h).2
    simp at z
  | k :: ks, r :: ρ, 0, d, h => by
    have h : ((if k = .io then r else none) :: outE ks ρ)[0]? = _ := h
    rw [List.getElem?_cons_zero] at h
    by_cases e : k = .io
    · rw [if_pos e] at h
      rw [e]
      exact ⟨rfl, h⟩
    · rw [if_neg e] at h
      cases h
  | k :: ks, r :: ρ, i + 1, d, h => by
    have h : ((if k = .io then r else none) :: outE ks ρ)[i + 1]? = _ := h
    rw [List.getElem?_cons_succ] at h
    have z := outE_get h
    simpa using z
theorem outE_len : ∀ {ks : List Kd} {ρ : En}, (outE ks ρ).length = ks.length
  | [], _ => rfl
  | k :: ks, [] => by
    show (none :: outE ks []).length = _
    rw [List.length_cons, outE_len, List.length_cons]
  | k :: ks, r :: ρ => by
    show (_ :: outE ks ρ).length = _
    rw [List.length_cons, outE_len, List.length_cons]
def mFun (Oi : List Kd) (n : Nat) (r : Ak) (b : MS) : En → Option (D × En) := fun ρ => (b (ρ ++ List.replicate n none)).bind fun p => match p.1 with
  | .rt d => some (d, outE Oi p.2)
  | .nx => (match r with
    | .fz => some (.none, outE Oi p.2)
    | _ => none)
  | _ => none
def noLk : List Kd → Bool
  | [] => true
  | k :: ks => !k.lock && noLk ks
theorem noLk_get : ∀ {ks : List Kd} {i : Nat} {k : Kd}, noLk ks = true → ks[i]? = some k → k.lock = false
  | [], _, _, _, h => by simp at h
  | a :: ks, 0, k, h, e => by
    have e : a = k := by simpa using e
    subst e
    have h := (Bool.and_eq_true_iff.mp (show (!a.lock && noLk ks) = true from h)).1
    simpa using h
  | a :: ks, i + 1, k, h, e => noLk_get (Bool.and_eq_true_iff.mp (show (!a.lock && noLk ks) = true from h)).2 (by simpa using e)
def spF (K : PySem.W.Frag) (Oi : List Kd) (mf : En → Option (D × En)) (r : Ak) : Sp := fun vs H Q _ => tE K Oi mf r (vs.map some) H Q
theorem spF_len {K : PySem.W.Frag} {Oi : List Kd} {mf : En → Option (D × En)} {r : Ak} {vs : List V} {H : Hp} {Q : VK} {E : XK} (n1 : hasO Oi = false) (h : spF K Oi mf r vs H Q E) : vs.length = Oi.length := by
  obtain ⟨F, ρ, d, ρ', ok, _⟩ := h
  have h : (vs.map some).length = nl Oi := ok.ls
  rw [List.length_map, nl_no n1] at h
  exact h
section
variable {K : PySem.W.Frag} {Oi Ol : List Kd} {N : List Str} {vs : List V} {F H : Hp} {ρ : En}
theorem ent_own {σ : L2.St} (n1 : hasO Oi = false) (n2 : hasO (Oi ++ Ol) = false) (hl : ρ.length = Oi.length) (hs : σ.length = Oi.length) {σl : L2.St} (hσ : σl.length = Ol.length) {m : Nat} {i : Nat} {p : Addr} : OwnAt (Oi ++ Ol) ⟨F, H, σ ++ σl, ρ ++ List.replicate m none⟩ i p ↔ OwnAt Oi ⟨F, H, σ, ρ⟩ i p := by
  have s2 : sv (Oi ++ Ol) H (σ ++ σl) i = (σ ++ σl)[i]? := sv_no n2 (by rw [List.length_append, List.length_append]; omega)
  have s1 : sv Oi H σ i = σ[i]? := sv_no n1 hs
  constructor
  · rintro ⟨k, d, h1, h2, h3, h4⟩
    have h3 : (ρ ++ List.replicate m none)[i]? = some (some d) := h3
    have hi : i < ρ.length := by
      by_cases z : i < ρ.length
      · exact z
      · rw [List.getElem?_append_right (Nat.le_of_not_lt z), List.getElem?_replicate] at h3
        split at h3 <;> cases h3
    rw [List.getElem?_append_left hi] at h3
    rw [List.getElem?_append_left (by omega)] at h1
    have h4 := s2.symm.trans h4
    rw [List.getElem?_append_left (by omega)] at h4
    exact ⟨k, d, h1, h2, h3, s1.trans h4⟩
  · rintro ⟨k, d, h1, h2, h3, h4⟩
    have h3 : ρ[i]? = some (some d) := h3
    have hi : i < ρ.length := (List.getElem?_eq_some_iff.mp h3).1
    refine ⟨k, d, ?_, h2, ?_, s2.trans ?_⟩
    · rw [List.getElem?_append_left (by omega)]
      exact h1
    · show (ρ ++ List.replicate m none)[i]? = _
      rw [List.getElem?_append_left hi]
      exact h3
    · rw [List.getElem?_append_left (by omega)]
      exact s1.symm.trans h4
theorem ent_ok {σ : L2.St} {σl : L2.St} (n1 : hasO Oi = false) (n2 : hasO (Oi ++ Ol) = false) (ok : Ok K Oi ⟨F, H, σ, ρ⟩) (hσ : σl.length = Ol.length) : Ok K (Oi ++ Ol) ⟨F, H, σ ++ σl, ρ ++ List.replicate Ol.length none⟩ := by
  have hl : ρ.length = Oi.length := ok.lr
  have hs : σ.length = Oi.length := (show σ.length = nl Oi from ok.ls).trans (nl_no n1)
  have s2 : ∀ i, sv (Oi ++ Ol) H (σ ++ σl) i = (σ ++ σl)[i]? := fun i => sv_no n2 (by rw [List.length_append, List.length_append]; omega)
  have s1 : ∀ i, sv Oi H σ i = σ[i]? := fun i => sv_no n1 hs
  have low : ∀ {i : Nat} {d : D}, (ρ ++ List.replicate Ol.length none)[i]? = some (some d) → i < ρ.length ∧ ρ[i]? = some (some d) := fun {i d} h => by
    have hi : i < ρ.length := by
      by_cases z : i < ρ.length
      · exact z
      · rw [List.getElem?_append_right (Nat.le_of_not_lt z), List.getElem?_replicate] at h
        split at h <;> cases h
    rw [List.getElem?_append_left hi] at h
    exact ⟨hi, h⟩
  refine ⟨ok.sub, ?_, ?_, fun i d h1 h2 => ?_, fun i k d h1 h2 h3 => ?_, fun i j p h1 h2 => ok.ap i j p ((ent_own n1 n2 hl hs hσ).mp h1) ((ent_own n1 n2 hl hs hσ).mp h2), fun e => (by rw [n2] at e; cases e), ok.tb⟩
  · show (σ ++ σl).length = _
    rw [nl_no n2, List.length_append, List.length_append, hs, hσ]
  · show (ρ ++ _).length = _
    rw [List.length_append, List.length_append, List.length_replicate, hl]
  · obtain ⟨hi, h3⟩ := low h2
    rw [List.getElem?_append_left (by omega)] at h1
    obtain ⟨v, g1, g2⟩ := ok.fz i d h1 h3
    exact ⟨v, (s2 i).trans (by rw [List.getElem?_append_left (by omega)]; exact (s1 i).symm.trans g1), g2⟩
  · obtain ⟨hi, h4⟩ := low h3
    rw [List.getElem?_append_left (by omega)] at h1
    obtain ⟨p, g1, g2⟩ := ok.ow i k d h1 h2 h4
    exact ⟨p, (s2 i).trans (by rw [List.getElem?_append_left (by omega)]; exact (s1 i).symm.trans g1), g2⟩
theorem ext_ok {σ σ' : L2.St} {σl : L2.St} {F' H' : Hp} {ρ' : En} {r : Ak} {d : D} {v : V} (n1 : hasO Oi = false) (n2 : hasO (Oi ++ Ol) = false) (hσ : σl.length = Ol.length) (hnl : noLk Oi = true) (hr : ∀ i, r ≠ .br i) (ok : Ok K Oi ⟨F, H, σ, ρ⟩) (ok' : Ok K (Oi ++ Ol) ⟨F', H', σ', ρ'⟩)
    (st : StpS (Oi ++ Ol) ⟨F, H, σ ++ σl, ρ ++ List.replicate Ol.length none⟩ ⟨F', H', σ', ρ'⟩) (rs : Rs K (Oi ++ Ol) ⟨F, H, σ ++ σl, ρ ++ List.replicate Ol.length none⟩ ⟨F', H', σ', ρ'⟩ r d v) :
    Ok K Oi ⟨F', H', σ, outE Oi ρ'⟩ ∧ Stp Oi ⟨F, H, σ, ρ⟩ ⟨F', H', σ, outE Oi ρ'⟩ ∧ Rs K Oi ⟨F, H, σ, ρ⟩ ⟨F', H', σ, outE Oi ρ'⟩ r d v := by
  have hl : ρ.length = Oi.length := ok.lr
  have hs : σ.length = Oi.length := (show σ.length = nl Oi from ok.ls).trans (nl_no n1)
  have hs' : σ'.length = (Oi ++ Ol).length := (show σ'.length = nl (Oi ++ Ol) from ok'.ls).trans (nl_no n2)
  have s2 : ∀ i, sv (Oi ++ Ol) H (σ ++ σl) i = (σ ++ σl)[i]? := fun i => sv_no n2 (by rw [List.length_append, List.length_append]; omega)
  have s2' : ∀ i, sv (Oi ++ Ol) H' σ' i = σ'[i]? := fun i => sv_no n2 hs'
  have s1 : ∀ (H : Hp) i, sv Oi H σ i = σ[i]? := fun H i => sv_no n1 hs
  have fp : ∀ {b : Addr}, Fp (Oi ++ Ol) ⟨F, H, σ ++ σl, ρ ++ List.replicate Ol.length none⟩ b ↔ Fp Oi ⟨F, H, σ, ρ⟩ b := ⟨fun ⟨i, h⟩ => ⟨i, (ent_own n1 n2 hl hs hσ).mp h⟩, fun ⟨i, h⟩ => ⟨i, (ent_own n1 n2 hl hs hσ).mpr h⟩⟩
  have at_ : ∀ {i : Nat}, Oi[i]? = some Kd.io → (Oi ++ Ol)[i]? = some Kd.io ∧ σ'[i]? = σ[i]? := fun {i} h => by
    have hi : i < Oi.length := (List.getElem?_eq_some_iff.mp h).1
    have h' : (Oi ++ Ol)[i]? = some Kd.io := by
      rw [List.getElem?_append_left hi]
      exact h
    have z := st.pn i _ h' rfl
    have z : σ'[i]? = (σ ++ σl)[i]? := (s2' i).symm.trans ((show sv (Oi ++ Ol) H' σ' i = sv (Oi ++ Ol) H (σ ++ σl) i from z).trans (s2 i))
    rw [List.getElem?_append_left (by omega)] at z
    exact ⟨h', z⟩
  have back : ∀ {i : Nat} {p : Addr}, OwnAt Oi ⟨F', H', σ, outE Oi ρ'⟩ i p → OwnAt (Oi ++ Ol) ⟨F', H', σ', ρ'⟩ i p := fun {i p} ⟨k, d', h1, h2, h3, h4⟩ => by
    obtain ⟨g1, g2⟩ := outE_get h3
    obtain ⟨e1, e2⟩ := at_ g1
    exact ⟨_, d', e1, rfl, g2, (s2' i).trans (e2.trans ((s1 H' i).symm.trans h4))⟩
  refine ⟨⟨ok'.sub, ok.ls, outE_len, fun i d' h1 h2 => ?_, fun i k d' h1 h2 h3 => ?_, fun i j p h1 h2 => ok'.ap i j p (back h1) (back h2), fun e => (by rw [n1] at e; cases e), ok'.tb⟩,
    StpS.no n1 ⟨st.ex, fun b o h z _ => st.kp b o h (fun q => z (fp.mp q)) (fun e => by rw [n2] at e; cases e), fun b o h z => st.nw b o h fun q => z (fp.mp q), fun b ⟨i, h⟩ => ?_, fun i _ _ _ => (s1 H' i).trans (s1 H i).symm, fun i k h1 h2 => ?_, fun i k p d' h1 h2 => ?_, fun e => (by rw [n1] at e; cases e), st.tb⟩, ?_⟩
  · have := (outE_get h2).1
    rw [h1] at this
    cases this
  · obtain ⟨g1, g2⟩ := outE_get h3
    obtain ⟨e1, e2⟩ := at_ g1
    obtain ⟨p, q1, q2⟩ := ok'.ow i _ d' e1 rfl g2
    exact ⟨p, (s1 H' i).trans (e2.symm.trans ((s2' i).symm.trans q1)), q2⟩
  · rcases st.fp b ⟨i, back h⟩ with q | q
    · exact .inl (fp.mp q)
    · exact .inr q
  · rw [noLk_get hnl h1] at h2
    cases h2
  · rw [noLk_get hnl h1] at h2
    cases h2
  · cases r with
    | fz => exact rs
    | ow =>
      obtain ⟨p, e, h1, h2, h3, h4, h5⟩ := rs
      refine ⟨p, e, h1, h2, fun ⟨i, z⟩ => h3 ⟨i, back z⟩, ?_, fun e => by rw [n1] at e; cases e⟩
      rcases h4 with h4 | h4
      · exact .inl (fp.mp h4)
      · exact .inr h4
    | br i => exact (hr i rfl).elim
end
section
variable {P : Program} {w : World} {K : PySem.W.Frag} {mg : Str → Option Value} {base : Heap} {f : Addr} {fd : FuncData}
theorem fn_data {x qual : Str} {params : Arguments} {body : List Stmt} {scope : Scope} {dvs : List V} {kws : List (Str × V)} {N ps : List Str} {k : Nat} {Oi Ol : List Kd} {b : MS} {r : Ak} (F : FunD K x qual params body scope dvs kws f fd) (S : FnScope N ps scope)
    (hi : Oi.length = ps.length) (hN : N.length = Oi.length + Ol.length) (hnl : noLk Oi = true) (hr : ∀ i, r ≠ .br i)
    (hb : ∀ (cd : Value) (A : Around) (outer : List Env) (s : Shared) (H : Hp) (E : XK), A.guards = some [] → Room k (A.deeper (envOfC qual scope s.heap.objs.size f cd)) →
      PSs (cxOf CX0 P w K mg base N qual scope f cd A outer s H E).nox body (tS K (Oi ++ Ol) b r)) (n1 : hasO Oi = false := by rfl) (n2 : hasO (Oi ++ Ol) = false := by rfl) : FnG P w K mg base CX0 (k + 1) f fd ps (spF K Oi (mFun Oi Ol.length r b) r) := by
  refine fnG_of F S (fun vs H Q E h => (spF_len n1 h).trans hi) fun cd A outer s H vs Q E g hr' h => ?_
  refine ⟨_, (hb cd A outer s H E g hr').nox, ?_⟩
  have hv := spF_len n1 h
  obtain ⟨Fz, ρ, d, ρ', ok, hm, q⟩ := h
  obtain ⟨⟨fl, ρ1⟩, h1, h2⟩ := bind_some hm
  have hst : L2.start N vs = vs.map some ++ List.replicate Ol.length none := by
    unfold L2.start
    rw [hN, hv, Nat.add_sub_cancel_left]
  rw [hst]
  refine ⟨Fz, _, fl, ρ1, ent_ok (Ol := Ol) n1 n2 ok (List.length_replicate), h1, ?_⟩
  cases fl with
  | nx =>
    cases r with
    | ow => cases h2
    | br i => cases h2
    | fz =>
    cases h2
    intro σ' F' H' ok' st
    obtain ⟨o1, o2, o3⟩ := ext_ok (d := .none) (v := .non) (r := .fz) n1 n2 (List.length_replicate) hnl (fun _ z => by cases z) ok ok' st rfl
    exact q .non F' H' o1 o2 o3
  | rt d' =>
    cases h2
    intro v σ' F' H' ok' st rs
    obtain ⟨o1, o2, o3⟩ := ext_ok n1 n2 (List.length_replicate) hnl hr ok ok' st rs
    exact q v F' H' o1 o2 o3
  | bk => cases h2
  | ct => cases h2
end
def brs : List Ak → List Nat
  | [] => []
  | .br i :: ks => i :: brs ks
  | .fz :: ks => brs ks
  | .ow :: ks => brs ks
def ows : List Ak → Nat
  | [] => 0
  | .ow :: ks => ows ks + 1
  | .fz :: ks => ows ks
  | .br _ :: ks => ows ks
def mutK : Option Kd → Bool
  | some .ow => true
  | some .io => true
  | _ => false
def sig1 (O : List Kd) : List Ak → List Kd → Bool
  | [], oi => oi.all fun k => decide (k = .fz)
  | .fz :: ks, .fz :: oi => sig1 O ks oi
  | .ow :: ks, .ow :: oi => sig1 O ks oi
  | .br i :: ks, .io :: oi => mutK O[i]? && sig1 O ks oi
  | _, _ => false
def sigOk (O : List Kd) (ks : List Ak) (oi : List Kd) : Bool := sig1 O ks oi && (decide (brs ks).Nodup && decide (ows ks ≤ 1))
def putB : List Ak → En → En → En
  | [], _, ρ => ρ
  | .br i :: ks, o :: os, ρ => putB ks os (ρ.set i o)
  | .fz :: ks, _ :: os, ρ => putB ks os ρ
  | .ow :: ks, _ :: os, ρ => putB ks os ρ
  | _ :: _, [], ρ => ρ
def mCall (mf : En → Option (D × En)) (ks : List Ak) (dd : List D) (ma : MA) : M := fun ρ => (ma ρ).bind fun p => (fill ks p.1 p.2).bind fun ds => (mf ((ds ++ dd).map some)).bind fun z => some (z.1, putB ks z.2 p.2)
theorem putB_len : ∀ {ks : List Ak} {os ρ : En}, (putB ks os ρ).length = ρ.length
  | [], _, _ => rfl
  | .br i :: ks, o :: os, ρ => by
    show (putB ks os (ρ.set i o)).length = _
    rw [putB_len, List.length_set]
  | .fz :: ks, o :: os, ρ => putB_len (ks := ks) (os := os)
  | .ow :: ks, o :: os, ρ => putB_len (ks := ks) (os := os)
  | .br i :: ks, [], ρ => rfl
  | .fz :: ks, [], ρ => rfl
  | .ow :: ks, [], ρ => rfl
theorem putB_get : ∀ {ks : List Ak} {os ρ : En} {i : Nat}, (brs ks).Nodup → (i ∉ brs ks ∧ (putB ks os ρ)[i]? = ρ[i]?) ∨ (i ∈ brs ks ∧ ∃ j : Nat, ks[j]? = some (.br i) ∧ ((∃ o, os[j]? = some o ∧ (putB ks os ρ)[i]? = (ρ.set i o)[i]?) ∨ (os[j]? = none ∧ (putB ks os ρ)[i]? = ρ[i]?)))
  | [], _, _, i, _ => .inl ⟨by simp [brs], rfl⟩
  | .br n :: ks, o :: os, ρ, i, h => by
    have hn : n ∉ brs ks ∧ (brs ks).Nodup := List.nodup_cons.mp h
    have ih := putB_get (ks := ks) (os := os) (ρ := ρ.set n o) (i := i) hn.2
    by_cases e : n = i
    · subst e
      rcases ih with ⟨_, q⟩ | ⟨z, _⟩
      · exact .inr ⟨List.mem_cons_self, 0, rfl, .inl ⟨o, rfl, q⟩⟩
      · exact (hn.1 z).elim
    · rcases ih with ⟨z, q⟩ | ⟨z, j, j1, j2⟩
      · refine .inl ⟨fun m => ?_, ?_⟩
        · rcases List.mem_cons.mp m with m | m
          · exact e m.symm
          · exact z m
        · show (putB ks os (ρ.set n o))[i]? = _
          rw [q, List.getElem?_set_ne e]
      · refine .inr ⟨List.mem_cons_of_mem _ z, j + 1, j1, ?_⟩
        rcases j2 with ⟨o', j2, j3⟩ | ⟨j2, j3⟩
        · refine .inl ⟨o', by simpa using j2, ?_⟩
          show (putB ks os (ρ.set n o))[i]? = _
          rw [j3]
          by_cases hl : i < ρ.length
          · rw [List.getElem?_set_self (by rw [List.length_set]; exact hl), List.getElem?_set_self hl]
          · rw [List.getElem?_eq_none (by rw [List.length_set, List.length_set]; omega), List.getElem?_eq_none (by rw [List.length_set]; omega)]
        · refine .inr ⟨by simpa using j2, ?_⟩
          show (putB ks os (ρ.set n o))[i]? = _
          rw [j3, List.getElem?_set_ne e]
  | .br n :: ks, [], ρ, i, h => by
    have hn : n ∉ brs ks ∧ (brs ks).Nodup := List.nodup_cons.mp h
    by_cases m : i ∈ brs (.br n :: ks)
    · refine .inr ⟨m, ?_⟩
      have key : ∀ {ks : List Ak}, i ∈ brs ks → ∃ j : Nat, ks[j]? = some (.br i) := fun {ks} => by
        induction ks with
        | nil => exact fun h => by simp [brs] at h
        | cons a ks ih =>
          intro h
          cases a with
          | br n =>
            rcases List.mem_cons.mp h with e | e
            · exact ⟨0, by rw [e]; rfl⟩
            · obtain ⟨j, q⟩ := ih e
              exact ⟨j + 1, by simpa using q⟩
          | fz =>
            obtain ⟨j, q⟩ := ih h
            exact ⟨j + 1, by simpa using q⟩
          | ow =>
            obtain ⟨j, q⟩ := ih h
            exact ⟨j + 1, by simpa using q⟩
      obtain ⟨j, q⟩ := key m
      exact ⟨j, q, .inr ⟨by simp, rfl⟩⟩
    · exact .inl ⟨m, rfl⟩
  | .fz :: ks, o :: os, ρ, i, h => by
    rcases putB_get (ks := ks) (os := os) (ρ := ρ) (i := i) h with ⟨z, q⟩ | ⟨z, j, j1, j2⟩
    · exact .inl ⟨z, q⟩
    · exact .inr ⟨z, j + 1, by simpa using j1, by simpa [putB] using j2⟩
  | .ow :: ks, o :: os, ρ, i, h => by
    rcases putB_get (ks := ks) (os := os) (ρ := ρ) (i := i) h with ⟨z, q⟩ | ⟨z, j, j1, j2⟩
    · exact .inl ⟨z, q⟩
    · exact .inr ⟨z, j + 1, by simpa using j1, by simpa [putB] using j2⟩
  | .fz :: ks, [], ρ, i, h => by
    by_cases m : i ∈ brs (.fz :: ks)
    · have key : ∀ {ks : List Ak}, i ∈ brs ks → ∃ j : Nat, ks[j]? = some (.br i) := fun {ks} => by
        induction ks with
        | nil => exact fun h => by simp [brs] at h
        | cons a ks ih =>
          intro h
          cases a with
          | br n =>
            rcases List.mem_cons.mp h with e | e
            · exact ⟨0, by rw [e]; rfl⟩
            · obtain ⟨j, q⟩ := ih e
              exact ⟨j + 1, by simpa using q⟩
          | fz =>
            obtain ⟨j, q⟩ := ih h
            exact ⟨j + 1, by simpa using q⟩
          | ow =>
            obtain ⟨j, q⟩ := ih h
            exact ⟨j + 1, by simpa using q⟩
      obtain ⟨j, q⟩ := key m
      exact .inr ⟨m, j, q, .inr ⟨by simp, rfl⟩⟩
    · exact .inl ⟨m, rfl⟩
  | .ow :: ks, [], ρ, i, h => by
    by_cases m : i ∈ brs (.ow :: ks)
    · have key : ∀ {ks : List Ak}, i ∈ brs ks → ∃ j : Nat, ks[j]? = some (.br i) := fun {ks} => by
        induction ks with
        | nil => exact fun h => by simp [brs] at h
        | cons a ks ih =>
          intro h
          cases a with
          | br n =>
            rcases List.mem_cons.mp h with e | e
            · exact ⟨0, by rw [e]; rfl⟩
            · obtain ⟨j, q⟩ := ih e
              exact ⟨j + 1, by simpa using q⟩
          | fz =>
            obtain ⟨j, q⟩ := ih h
            exact ⟨j + 1, by simpa using q⟩
          | ow =>
            obtain ⟨j, q⟩ := ih h
            exact ⟨j + 1, by simpa using q⟩
      obtain ⟨j, q⟩ := key m
      exact .inr ⟨m, j, q, .inr ⟨by simp, rfl⟩⟩
    · exact .inl ⟨m, rfl⟩
theorem brs_mem {i : Nat} : ∀ {ks : List Ak} {j : Nat}, ks[j]? = some (.br i) → i ∈ brs ks
  | [], _, h => by simp at h
  | a :: ks, 0, h => by
    have h : a = .br i := by simpa using h
    rw [h]
    exact List.mem_cons_self
  | a :: ks, j + 1, h => by
    have q := brs_mem (ks := ks) (j := j) (by simpa using h)
    cases a with
    | br n => exact List.mem_cons_of_mem _ q
    | fz => exact q
    | ow => exact q
theorem brs_inj {i : Nat} : ∀ {ks : List Ak} {j j' : Nat}, (brs ks).Nodup → ks[j]? = some (.br i) → ks[j']? = some (.br i) → j = j'
  | [], _, _, _, h, _ => by simp at h
  | a :: ks, 0, 0, _, _, _ => rfl
  | a :: ks, 0, j' + 1, hn, h, h' => by
    have h : a = .br i := by simpa using h
    subst h
    exact ((List.nodup_cons.mp (show (i :: brs ks).Nodup from hn)).1 (brs_mem (by simpa using h'))).elim
  | a :: ks, j + 1, 0, hn, h, h' => by
    have h' : a = .br i := by simpa using h'
    subst h'
    exact ((List.nodup_cons.mp (show (i :: brs ks).Nodup from hn)).1 (brs_mem (by simpa using h))).elim
  | a :: ks, j + 1, j' + 1, hn, h, h' => by
    have hn' : (brs ks).Nodup := by
      cases a with
      | br n => exact (List.nodup_cons.mp (show (n :: brs ks).Nodup from hn)).2
      | fz => exact hn
      | ow => exact hn
    exact congrArg (· + 1) (brs_inj (ks := ks) (j := j) (j' := j') hn' (by simpa using h) (by simpa using h'))
theorem ows_pos : ∀ {ks : List Ak} {j : Nat}, ks[j]? = some .ow → 0 < ows ks
  | [], _, h => by simp at h
  | a :: ks, 0, h => by
    have h : a = .ow := by simpa using h
    rw [h]
    exact Nat.succ_pos _
  | a :: ks, j + 1, h => by
    have q := ows_pos (ks := ks) (j := j) (by simpa using h)
    cases a with
    | br n => exact q
    | fz => exact q
    | ow => exact Nat.succ_pos _
theorem ows_inj : ∀ {ks : List Ak} {j j' : Nat}, ows ks ≤ 1 → ks[j]? = some .ow → ks[j']? = some .ow → j = j'
  | [], _, _, _, h, _ => by simp at h
  | a :: ks, 0, 0, _, _, _ => rfl
  | a :: ks, 0, j' + 1, hn, h, h' => by
    have h : a = .ow := by simpa using h
    subst h
    have q := ows_pos (ks := ks) (j := j') (by simpa using h')
    have hn : ows ks + 1 ≤ 1 := hn
    omega
  | a :: ks, j + 1, 0, hn, h, h' => by
    have h' : a = .ow := by simpa using h'
    subst h'
    have q := ows_pos (ks := ks) (j := j) (by simpa using h)
    have hn : ows ks + 1 ≤ 1 := hn
    omega
  | a :: ks, j + 1, j' + 1, hn, h, h' => by
    have hn' : ows ks ≤ 1 := by
      cases a with
      | br n => exact hn
      | fz => exact hn
      | ow =>
        have hn : ows ks + 1 ≤ 1 := hn
        omega
    exact congrArg (· + 1) (ows_inj (ks := ks) (j := j) (j' := j') hn' (by simpa using h) (by simpa using h'))
theorem sig1_get {O : List Kd} : ∀ {ks : List Ak} {oi : List Kd} {j : Nat} {q : Kd}, sig1 O ks oi = true → oi[j]? = some q →
    (ks[j]? = none ∧ q = .fz) ∨ (ks[j]? = some .fz ∧ q = .fz) ∨ (ks[j]? = some .ow ∧ q = .ow) ∨ ∃ i, ks[j]? = some (.br i) ∧ q = .io ∧ mutK O[i]? = true
  | [], oi, j, q, h, e => .inl ⟨by simp, by
    have h : (oi.all fun k => decide (k = .fz)) = true := h
    exact of_decide_eq_true (List.all_eq_true.mp h q (List.mem_of_getElem? e))⟩
  | .fz :: ks, .fz :: oi, 0, q, h, e => .inr (.inl ⟨rfl, by simpa using e.symm⟩)
  | .fz :: ks, .fz :: oi, j + 1, q, h, e => by simpa using sig1_get (ks := ks) (oi := oi) (j := j) h (by simpa using e)
  | .ow :: ks, .ow :: oi, 0, q, h, e => .inr (.inr (.inl ⟨rfl, by simpa using e.symm⟩))
  | .ow :: ks, .ow :: oi, j + 1, q, h, e => by simpa using sig1_get (ks := ks) (oi := oi) (j := j) h (by simpa using e)
  | .br i :: ks, .io :: oi, 0, q, h, e => .inr (.inr (.inr ⟨i, rfl, by simpa using e.symm, (Bool.and_eq_true_iff.mp h).1⟩))
  | .br i :: ks, .io :: oi, j + 1, q, h, e => by simpa using sig1_get (ks := ks) (oi := oi) (j := j) (Bool.and_eq_true_iff.mp h).2 (by simpa using e)
  | .fz :: ks, [], _, _, h, _ => by cases h
  | .ow :: ks, [], _, _, h, _ => by cases h
  | .br _ :: ks, [], _, _, h, _ => by cases h
  | .fz :: ks, .ow :: oi, _, _, h, _ => by cases h
  | .fz :: ks, .io :: oi, _, _, h, _ => by cases h
  | .fz :: ks, .lk :: oi, _, _, h, _ => by cases h
  | .fz :: ks, .li :: oi, _, _, h, _ => by cases h
  | .ow :: ks, .fz :: oi, _, _, h, _ => by cases h
  | .ow :: ks, .io :: oi, _, _, h, _ => by cases h
  | .ow :: ks, .lk :: oi, _, _, h, _ => by cases h
  | .ow :: ks, .li :: oi, _, _, h, _ => by cases h
  | .br _ :: ks, .fz :: oi, _, _, h, _ => by cases h
  | .br _ :: ks, .ow :: oi, _, _, h, _ => by cases h
  | .br _ :: ks, .lk :: oi, _, _, h, _ => by cases h
  | .br _ :: ks, .li :: oi, _, _, h, _ => by cases h
theorem Rss.at {K : PySem.W.Frag} {O : List Kd} {w w' : Wd} : ∀ {ks : List Ak} {ds es : List D} {vs : List V} {ρ : En} {j : Nat} {k : Ak}, Rss K O w w' ks ds vs → fill ks ds ρ = some es → ks[j]? = some k →
    ∃ d v e, vs[j]? = some v ∧ es[j]? = some e ∧ Rs K O w w' k d v ∧ (k = .fz ∨ k = .ow → e = d) ∧ ∀ i, k = .br i → ρ[i]? = some (some e)
  | [], _, _, _, _, _, _, _, _, h => by simp at h
  | .br i :: ks, _, es, _, ρ, j, k, ⟨d, ds', v, vs', h1, h2, h3, h4⟩, hf, hj => by
    subst h1 h2
    obtain ⟨d', e1, e2⟩ := slot_some hf
    obtain ⟨es', e3, e4⟩ := map_some e2
    subst e4
    cases j with
    | zero =>
      have hj : .br i = k := by simpa using hj
      subst hj
      refine ⟨d, v, d', rfl, rfl, h3, fun z => ?_, fun n z => ?_⟩
      · rcases z with z | z <;> cases z
      · cases z
        exact e1
    | succ j =>
      obtain ⟨d2, v2, e, g1, g2, g3⟩ := h4.at e3 (j := j) (by simpa using hj)
      exact ⟨d2, v2, e, by simpa using g1, by simpa using g2, g3⟩
  | .fz :: ks, _, es, _, ρ, j, k, ⟨d, ds', v, vs', h1, h2, h3, h4⟩, hf, hj => by
    subst h1 h2
    obtain ⟨es', e3, e4⟩ := map_some hf
    subst e4
    cases j with
    | zero =>
      have hj : .fz = k := by simpa using hj
      subst hj
      exact ⟨d, v, d, rfl, rfl, h3, fun _ => rfl, fun n z => by cases z⟩
    | succ j =>
      obtain ⟨d2, v2, e, g1, g2, g3⟩ := h4.at e3 (j := j) (by simpa using hj)
      exact ⟨d2, v2, e, by simpa using g1, by simpa using g2, g3⟩
  | .ow :: ks, _, es, _, ρ, j, k, ⟨d, ds', v, vs', h1, h2, h3, h4⟩, hf, hj => by
    subst h1 h2
    obtain ⟨es', e3, e4⟩ := map_some hf
    subst e4
    cases j with
    | zero =>
      have hj : .ow = k := by simpa using hj
      subst hj
      exact ⟨d, v, d, rfl, rfl, h3, fun _ => rfl, fun n z => by cases z⟩
    | succ j =>
      obtain ⟨d2, v2, e, g1, g2, g3⟩ := h4.at e3 (j := j) (by simpa using hj)
      exact ⟨d2, v2, e, by simpa using g1, by simpa using g2, g3⟩
theorem Rss.len {K : PySem.W.Frag} {O : List Kd} {w w' : Wd} : ∀ {ks : List Ak} {ds es : List D} {vs : List V} {ρ : En}, Rss K O w w' ks ds vs → fill ks ds ρ = some es → vs.length = ks.length ∧ es.length = ks.length
  | [], _, _, _, _, ⟨h1, h2⟩, hf => by
    subst h1 h2
    cases hf
    exact ⟨rfl, rfl⟩
  | .br i :: ks, _, es, _, ρ, ⟨d, ds', v, vs', h1, h2, h3, h4⟩, hf => by
    subst h1 h2
    obtain ⟨d', e1, e2⟩ := slot_some hf
    obtain ⟨es', e3, e4⟩ := map_some e2
    subst e4
    obtain ⟨a, b⟩ := h4.len e3
    exact ⟨by simp [a], by simp [b]⟩
  | .fz :: ks, _, es, _, ρ, ⟨d, ds', v, vs', h1, h2, h3, h4⟩, hf => by
    subst h1 h2
    obtain ⟨es', e3, e4⟩ := map_some hf
    subst e4
    obtain ⟨a, b⟩ := h4.len e3
    exact ⟨by simp [a], by simp [b]⟩
  | .ow :: ks, _, es, _, ρ, ⟨d, ds', v, vs', h1, h2, h3, h4⟩, hf => by
    subst h1 h2
    obtain ⟨es', e3, e4⟩ := map_some hf
    subst e4
    obtain ⟨a, b⟩ := h4.len e3
    exact ⟨by simp [a], by simp [b]⟩
section
variable {K : PySem.W.Frag} {O Oi : List Kd} {ks : List Ak} {dd : List D} {dvs : List V}
theorem call_ok {w w1 : Wd} {ds es : List D} {vs : List V} (n1 : hasO Oi = false) (hl : es.length + dd.length = Oi.length) (hs : sigOk O ks Oi = true) (hdd : ∀ F : Hp, RpA K F dd dvs) (st : Stp O w w1) (ok : Ok K O w1) (r : Rss K O w w1 ks ds vs) (hf : fill ks ds w1.ρ = some es) :
    Ok K Oi ⟨w1.F, w1.H, (vs ++ dvs).map some, (es ++ dd).map some⟩ ∧
    (∀ (j : Nat) (p : Addr), OwnAt Oi ⟨w1.F, w1.H, (vs ++ dvs).map some, (es ++ dd).map some⟩ j p → (∃ i, ks[j]? = some (.br i) ∧ OwnAt O w1 i p) ∨ (ks[j]? = some .ow ∧ ¬ Fp O w1 p ∧ (Fp O w p ∨ w.H p = none) ∧ (hasO O = true → p ≠ ob O w1.σ))) := by
  obtain ⟨h1, h2⟩ := Bool.and_eq_true_iff.mp hs
  obtain ⟨h2, h3⟩ := Bool.and_eq_true_iff.mp h2
  have h2 := of_decide_eq_true h2
  have h3 := of_decide_eq_true h3
  obtain ⟨l1, l2⟩ := r.len hf
  have ld : dvs.length = dd.length := (hdd fun _ => none).length
  have inL : ∀ {j : Nat} {v : V}, vs[j]? = some v → ((vs ++ dvs).map some)[j]? = some (some v) := fun {j v} e => by
    have hj := (List.getElem?_eq_some_iff.mp e).1
    rw [List.getElem?_map, List.getElem?_append_left hj, e]
    rfl
  have lv : ((vs ++ dvs).map some).length = Oi.length := by
    rw [List.length_map, List.length_append]
    omega
  have s1 : ∀ j, sv Oi w1.H ((vs ++ dvs).map some) j = ((vs ++ dvs).map some)[j]? := fun j => sv_no n1 lv
  have inD : ∀ {j : Nat} {d : D}, es[j]? = some d → ((es ++ dd).map some)[j]? = some (some d) := fun {j d} e => by
    have hj := (List.getElem?_eq_some_iff.mp e).1
    rw [List.getElem?_map, List.getElem?_append_left hj, e]
    rfl
  have own : ∀ (j : Nat) (p : Addr), OwnAt Oi ⟨w1.F, w1.H, (vs ++ dvs).map some, (es ++ dd).map some⟩ j p → (∃ i, ks[j]? = some (.br i) ∧ OwnAt O w1 i p) ∨ (ks[j]? = some .ow ∧ ¬ Fp O w1 p ∧ (Fp O w p ∨ w.H p = none) ∧ (hasO O = true → p ≠ ob O w1.σ)) := by
    rintro j p ⟨k, d, g1, g2, g3, g4⟩
    rcases sig1_get h1 g1 with ⟨_, e⟩ | ⟨_, e⟩ | ⟨e1, e⟩ | ⟨i, e1, e, e2⟩
    · rw [e] at g2
      cases g2
    · rw [e] at g2
      cases g2
    · obtain ⟨d', v, e', q1, q2, q3, q4, q5⟩ := r.at hf e1
      have g4 : ((vs ++ dvs).map some)[j]? = some (some (.ref p)) := (s1 j).symm.trans g4
      rw [inL q1] at g4
      cases g4
      obtain ⟨p', z1, z2, z3, z4, z5, z6⟩ := q3
      cases z1
      exact .inr ⟨e1, z4, z5, z6⟩
    · obtain ⟨d', v, e', q1, q2, q3, q4, q5⟩ := r.at hf e1
      have g4 : ((vs ++ dvs).map some)[j]? = some (some (.ref p)) := (s1 j).symm.trans g4
      rw [inL q1] at g4
      cases g4
      obtain ⟨z1, q, z2, z3⟩ := q3
      exact .inl ⟨i, e1, q, e', z2, z3, q5 i rfl, z1⟩
  refine ⟨⟨ok.sub, ?_, ?_, fun j d g1 g2 => ?_, fun j k d g1 g2 g3 => ?_, fun j j' p g1 g2 => ?_, fun e => (by rw [n1] at e; cases e), ok.tb⟩, own⟩
  · show ((vs ++ dvs).map some).length = _
    rw [nl_no n1]
    exact lv
  · show ((es ++ dd).map some).length = _
    rw [List.length_map, List.length_append]
    exact hl
  · have g2 : ((es ++ dd).map some)[j]? = some (some d) := g2
    by_cases hj : j < es.length
    · rcases sig1_get h1 g1 with ⟨e1, e⟩ | ⟨e1, e⟩ | ⟨e1, e⟩ | ⟨i, e1, e, e2⟩
      · rw [List.getElem?_eq_none_iff] at e1
        omega
      · obtain ⟨d', v, e', q1, q2, q3, q4, q5⟩ := r.at hf e1
        rw [inD q2] at g2
        cases g2
        have := q4 (.inl rfl)
        subst this
        exact ⟨v, (s1 j).trans (inL q1), q3⟩
      · cases e
      · cases e
    · rw [List.getElem?_map, List.getElem?_append_right (Nat.le_of_not_lt hj)] at g2
      cases e : dd[j - es.length]? with
      | none =>
        rw [e] at g2
        cases g2
      | some d' =>
        rw [e] at g2
        cases g2
        obtain ⟨v, q1, q2⟩ := (hdd w1.F).get e
        refine ⟨v, (s1 j).trans ?_, q2⟩
        rw [List.getElem?_map, List.getElem?_append_right (by omega), show j - vs.length = j - es.length by omega, q1]
        rfl
  · have g3 : ((es ++ dd).map some)[j]? = some (some d) := g3
    rcases sig1_get h1 g1 with ⟨_, e⟩ | ⟨_, e⟩ | ⟨e1, e⟩ | ⟨i, e1, e, e2⟩
    · rw [e] at g2
      cases g2
    · rw [e] at g2
      cases g2
    · obtain ⟨d', v, e', q1, q2, q3, q4, q5⟩ := r.at hf e1
      rw [inD q2] at g3
      cases g3
      have := q4 (.inr rfl)
      subst this
      obtain ⟨p, rfl, z2, z3, z4⟩ := q3
      exact ⟨p, (s1 j).trans (inL q1), z2, z3⟩
    · obtain ⟨d', v, e', q1, q2, q3, q4, q5⟩ := r.at hf e1
      rw [inD q2] at g3
      cases g3
      obtain ⟨z1, q, z2, z3⟩ := q3
      obtain ⟨p, y1, y2, y3⟩ := ok.ow i q _ z2 z3 (q5 i rfl)
      rw [z1] at y1
      cases y1
      exact ⟨p, (s1 j).trans (inL q1), y2, y3⟩
  · rcases own j p g1 with ⟨i, e1, o1⟩ | ⟨e1, n1, _⟩ <;> rcases own j' p g2 with ⟨i', e2, o2⟩ | ⟨e2, n2, _⟩
    · have := ok.ap i i' p o1 o2
      subst this
      exact brs_inj h2 e1 e2
    · exact (n2 ⟨i, o1⟩).elim
    · exact (n1 ⟨i', o2⟩).elim
    · exact ows_inj h3 e1 e2
theorem call_back {w w1 : Wd} {es : List D} {vs : List V} {F2 H2 : Hp} {out : En} {r : Ak} {d : D} {v : V} (n1 : hasO Oi = false) (hs : sigOk O ks Oi = true) (hnl : noLk Oi = true) (hr : ∀ i, r ≠ .br i) (st : Stp O w w1) (ok : Ok K O w1)
    (okc : Ok K Oi ⟨w1.F, w1.H, (vs ++ dvs).map some, (es ++ dd).map some⟩)
    (own : ∀ (j : Nat) (p : Addr), OwnAt Oi ⟨w1.F, w1.H, (vs ++ dvs).map some, (es ++ dd).map some⟩ j p → (∃ i, ks[j]? = some (.br i) ∧ OwnAt O w1 i p) ∨ (ks[j]? = some .ow ∧ ¬ Fp O w1 p ∧ (Fp O w p ∨ w.H p = none) ∧ (hasO O = true → p ≠ ob O w1.σ)))
    (hbr : ∀ (j i : Nat), ks[j]? = some (.br i) → ∃ v', ((vs ++ dvs).map some)[j]? = some (some v') ∧ w1.sv O i = some (some v'))
    (okr : Ok K Oi ⟨F2, H2, (vs ++ dvs).map some, out⟩) (str : Stp Oi ⟨w1.F, w1.H, (vs ++ dvs).map some, (es ++ dd).map some⟩ ⟨F2, H2, (vs ++ dvs).map some, out⟩)
    (rs : Rs K Oi ⟨w1.F, w1.H, (vs ++ dvs).map some, (es ++ dd).map some⟩ ⟨F2, H2, (vs ++ dvs).map some, out⟩ r d v) (hlk : ks.length ≤ Oi.length) :
    Ok K O ⟨F2, H2, w1.σ, putB ks out w1.ρ⟩ ∧ Stp O w ⟨F2, H2, w1.σ, putB ks out w1.ρ⟩ ∧ Rs K O w ⟨F2, H2, w1.σ, putB ks out w1.ρ⟩ r d v := by
  obtain ⟨h1, h2⟩ := Bool.and_eq_true_iff.mp hs
  obtain ⟨h2, h3⟩ := Bool.and_eq_true_iff.mp h2
  have h2 := of_decide_eq_true h2
  have hio : ∀ {j i : Nat}, ks[j]? = some (.br i) → Oi[j]? = some Kd.io ∧ mutK O[i]? = true := fun {j i} e => by
    have hj : j < Oi.length := Nat.lt_of_lt_of_le (List.getElem?_eq_some_iff.mp e).1 hlk
    rcases sig1_get h1 (List.getElem?_eq_getElem hj) with ⟨e1, _⟩ | ⟨e1, _⟩ | ⟨e1, _⟩ | ⟨i', e1, e2, e3⟩
    · rw [e] at e1
      cases e1
    · rw [e] at e1
      cases e1
    · rw [e] at e1
      cases e1
    · rw [e] at e1
      cases e1
      exact ⟨by rw [List.getElem?_eq_getElem hj, e2], e3⟩
  -- the callee's footprint
  have fpc : ∀ {b : Addr}, Fp Oi ⟨w1.F, w1.H, (vs ++ dvs).map some, (es ++ dd).map some⟩ b → Fp O w b ∨ w.H b = none := fun {b} ⟨j, h⟩ => by
    rcases own j b h with ⟨i, _, o⟩ | ⟨_, _, o, _⟩
    · exact st.fp b ⟨i, o⟩
    · exact o
  have nfpc : ∀ {b : Addr} {o : HO}, w.H b = some o → ¬ Fp O w b → ¬ Fp Oi ⟨w1.F, w1.H, (vs ++ dvs).map some, (es ++ dd).map some⟩ b := fun {b o} e z q => by
    rcases fpc q with q | q
    · exact z q
    · rw [e] at q
      cases q
  have lv : ((vs ++ dvs).map some).length = Oi.length := (show ((vs ++ dvs).map some).length = nl Oi from okc.ls).trans (nl_no n1)
  have s1 : ∀ (H : Hp) j, sv Oi H ((vs ++ dvs).map some) j = ((vs ++ dvs).map some)[j]? := fun H j => sv_no n1 lv
  have kp2 : ∀ {b : Addr} {o : HO}, w1.H b = some o → ¬ Fp Oi ⟨w1.F, w1.H, (vs ++ dvs).map some, (es ++ dd).map some⟩ b → KH o (H2 b) := fun {b o} h z => str.kp b o h z fun e => by rw [n1] at e; cases e
  have nob : hasO O = true → ¬ Fp Oi ⟨w1.F, w1.H, (vs ++ dvs).map some, (es ++ dd).map some⟩ (ob O w1.σ) := fun e ⟨j, h⟩ => by
    rcases own j _ h with ⟨i, _, o⟩ | ⟨_, _, _, o⟩
    · exact (ok.obj e).nf ⟨i, o⟩
    · exact o e rfl
  have hob : hasO O = true → H2 (ob O w1.σ) = w1.H (ob O w1.σ) := fun e => by
    obtain ⟨C, dx, fs, y, _⟩ := (ok.obj e).ex
    rw [y]
    exact kp2 y (nob e)
  have svO : ∀ i, sv O H2 w1.σ i = w1.sv O i := fun i => sv_same hob
  -- a slot's owner behind the call
  have slot : ∀ {i : Nat} {d' : D}, (putB ks out w1.ρ)[i]? = some (some d') → (i ∉ brs ks ∧ w1.ρ[i]? = some (some d')) ∨ (∃ j : Nat, ks[j]? = some (Ak.br i) ∧ out[j]? = some (some d')) := fun {i d'} e => by
    rcases putB_get (ks := ks) (os := out) (ρ := w1.ρ) (i := i) h2 with ⟨z, q⟩ | ⟨z, j, j1, ⟨o, j2, j3⟩ | ⟨j2, j3⟩⟩
    · rw [q] at e
      exact .inl ⟨z, e⟩
    · rw [j3] at e
      rcases set_get e with ⟨_, q⟩ | ⟨q, _⟩
      · subst q
        exact .inr ⟨j, j1, j2⟩
      · exact (q rfl).elim
    · have hj : j < Oi.length := Nat.lt_of_lt_of_le (List.getElem?_eq_some_iff.mp j1).1 hlk
      rw [List.getElem?_eq_none_iff] at j2
      have : out.length = Oi.length := okr.lr
      omega
  have back : ∀ {i : Nat} {p : Addr}, OwnAt O ⟨F2, H2, w1.σ, putB ks out w1.ρ⟩ i p → (i ∉ brs ks ∧ OwnAt O w1 i p) ∨ (∃ j, ks[j]? = some (.br i) ∧ OwnAt Oi ⟨F2, H2, (vs ++ dvs).map some, out⟩ j p) := fun {i p} ⟨k, d', e1, e2, e3, e4⟩ => by
    rcases slot e3 with ⟨z, q⟩ | ⟨j, q1, q2⟩
    · exact .inl ⟨z, k, d', e1, e2, q, (svO i).symm.trans e4⟩
    · obtain ⟨v', u1, u2⟩ := hbr j i q1
      have e4 := (svO i).symm.trans e4
      rw [u2] at e4
      cases e4
      exact .inr ⟨j, q1, _, d', (hio q1).1, rfl, q2, (s1 H2 j).trans u1⟩
  -- what was owned by a slot that was not lent stands as it stood
  have keepO : ∀ {i : Nat} {p : Addr}, i ∉ brs ks → OwnAt O w1 i p → ¬ Fp Oi ⟨w1.F, w1.H, (vs ++ dvs).map some, (es ++ dd).map some⟩ p := fun {i p} z o ⟨j, h⟩ => by
    rcases own j p h with ⟨i', e, o'⟩ | ⟨_, n, _, _⟩
    · have := ok.ap i i' p o o'
      subst this
      exact z (brs_mem e)
    · exact n ⟨i, o⟩
  have fpr : ∀ {b : Addr}, Fp O ⟨F2, H2, w1.σ, putB ks out w1.ρ⟩ b → Fp O w1 b ∨ w1.H b = none ∨ Fp Oi ⟨w1.F, w1.H, (vs ++ dvs).map some, (es ++ dd).map some⟩ b := fun {b} ⟨i, h⟩ => by
    rcases back h with ⟨z, q⟩ | ⟨j, q1, q2⟩
    · exact .inl ⟨i, q⟩
    · rcases str.fp b ⟨j, q2⟩ with q | q
      · exact .inr (.inr q)
      · exact .inr (.inl q)
  have okO : Ok K O ⟨F2, H2, w1.σ, putB ks out w1.ρ⟩ := by
    refine ⟨okr.sub, ok.ls, by show (putB ks out w1.ρ).length = _; rw [putB_len]; exact ok.lr, fun i d' e1 e2 => ?_, fun i k d' e1 e2 e3 => ?_, fun i i' p e1 e2 => ?_, fun e => ?_, okr.tb⟩
    · rcases slot e2 with ⟨z, q⟩ | ⟨j, q1, q2⟩
      · obtain ⟨u, u1, u2⟩ := ok.fz i d' e1 q
        exact ⟨u, (svO i).trans u1, u2.mono str.ex⟩
      · have := (hio q1).2
        rw [e1] at this
        cases this
    · rcases slot e3 with ⟨z, q⟩ | ⟨j, q1, q2⟩
      · obtain ⟨p, u1, u2, o, u3, u4⟩ := ok.ow i k d' e1 e2 q
        have np := keepO z ⟨k, d', e1, e2, q, u1⟩
        exact ⟨p, (svO i).trans u1, str.nw p o u3 np u2, o, u4.kh (kp2 u3 np), u4.mono str.ex⟩
      · obtain ⟨v', y1, y2⟩ := hbr j i q1
        obtain ⟨p, u1, u2, u3⟩ := okr.ow j _ d' (hio q1).1 rfl q2
        have u1 : ((vs ++ dvs).map some)[j]? = some (some (.ref p)) := (s1 H2 j).symm.trans u1
        rw [y1] at u1
        cases u1
        exact ⟨p, (svO i).trans y2, u2, u3⟩
    · rcases back e1 with ⟨z, q⟩ | ⟨j, q1, q2⟩ <;> rcases back e2 with ⟨z', q'⟩ | ⟨j', q1', q2'⟩
      · exact ok.ap i i' p q q'
      · obtain ⟨_, o, u⟩ := ok.ownF ⟨i, q⟩
        rcases str.fp p ⟨j', q2'⟩ with y | y
        · exact (keepO z q y).elim
        · rw [show w1.H p = none from y] at u
          cases u
      · obtain ⟨_, o, u⟩ := ok.ownF ⟨i', q'⟩
        rcases str.fp p ⟨j, q2⟩ with y | y
        · exact (keepO z' q' y).elim
        · rw [show w1.H p = none from y] at u
          cases u
      · have := okr.ap j j' p q2 q2'
        subst this
        rw [q1] at q1'
        cases q1'
        rfl
    · obtain ⟨a0, a1, ⟨C, dx, fs, a2, a3⟩, a4, a5, a6⟩ := ok.obj e
      have ndx : ¬ Fp Oi ⟨w1.F, w1.H, (vs ++ dvs).map some, (es ++ dd).map some⟩ dx := fun ⟨j, kk, d', g1, g2, g3, g4⟩ => by
        obtain ⟨q, y1, y2, u, y3, y4⟩ := okc.ow j kk d' g1 g2 g3
        rw [g4] at y1
        cases y1
        rw [show w1.H dx = some (.own (ob O w1.σ)) from a3] at y3
        cases y3
        cases d' <;> first | exact y4.elim | (obtain ⟨_, y5, _⟩ := y4; cases y5)
      refine ⟨a0, a1, ⟨C, dx, fs, kp2 a2 (nob e), kp2 a3 ndx⟩, str.nw _ _ a2 (nob e) a4, fun h => ?_, fun C dx fs z => a6 C dx fs ((hob e).symm.trans z)⟩
      rcases fpr h with q | q | q
      · exact a5 q
      · rw [a2] at q
        cases q
      · exact nob e q
  refine ⟨okO, ⟨⟨st.ex.trans str.ex, fun b o e z _ => (st.kp' e z).trans fun o' e' => kp2 e' (nfpc e z), fun b o e z f => (let ⟨o', e'⟩ := (st.kp' e z).ex; str.nw b o' e' (nfpc e z) (st.nw b o e z f)), fun b h => ?_, fun i k e1 e2 => (svO i).trans (st.pn i k e1 e2), fun i k e1 e2 => ?_, fun i k p d' e1 e2 e3 e4 => ?_, fun e => ⟨(st.o0 e).1, fun z => ?_⟩, fun P h => str.tb P (st.tb P h)⟩, fun e => ?_⟩, ?_⟩
  · rcases fpr h with q | q | q
    · exact st.fp b q
    · exact st.back q
    · exact fpc q
  · have hi : i ∉ brs ks := fun m => by
      rcases putB_get (ks := ks) (os := out) (ρ := w1.ρ) (i := i) h2 with ⟨z, _⟩ | ⟨_, j, j1, _⟩
      · exact z m
      · have := (hio j1).2
        rw [e1] at this
        cases k <;> first | (cases e2; done) | (cases this; done)
    rcases putB_get (ks := ks) (os := out) (ρ := w1.ρ) (i := i) h2 with ⟨_, q⟩ | ⟨m, _⟩
    · exact q.trans (st.lk i k e1 e2)
    · exact (hi m).elim
  · have hi : i ∉ brs ks := fun m => by
      rcases putB_get (ks := ks) (os := out) (ρ := w1.ρ) (i := i) h2 with ⟨z, _⟩ | ⟨_, j, j1, _⟩
      · exact z m
      · have := (hio j1).2
        rw [e1] at this
        cases k <;> first | (cases e2; done) | (cases this; done)
    have o1 : OwnAt O w1 i p := ⟨k, d', e1, Kd.own_of e2, (st.lk i k e1 e2).trans e3, (st.pn i k e1 (Kd.pin_of e2)).trans e4⟩
    obtain ⟨o, u, nt⟩ := ok.ownN ⟨i, o1⟩
    have a1 : H2 p = some o := (kp2 u (keepO hi o1)).nt nt
    have a2 := st.lo i k p d' e1 e2 e3 e4
    show H2 p = w.H p
    rw [a1, ← a2, u]
  · have y := (st.o0 e).2 z
    have y2 := hob e
    rw [(st.o0 e).1] at y2
    exact fun q => y (y2.symm.trans q)
  · have y2 := hob e
    rw [(st.o0 e).1] at y2
    exact y2.trans (st.ost e)
  · cases r with
    | fz => exact rs
    | ow =>
      obtain ⟨p, e, g1, g2, g3, g4, _⟩ := rs
      refine ⟨p, e, g1, g2, fun ⟨i, h⟩ => ?_, ?_, fun e y => ?_⟩
      · rcases back h with ⟨z, q⟩ | ⟨j, q1, q2⟩
        · obtain ⟨_, o, u⟩ := ok.ownF ⟨i, q⟩
          rcases g4 with y | y
          · exact keepO z q y
          · rw [show w1.H p = none from y] at u
            cases u
        · exact g3 ⟨j, q2⟩
      · rcases g4 with y | y
        · exact fpc y
        · exact st.back y
      · have y : p = ob O w1.σ := y
        rcases g4 with z | z
        · exact nob e (y ▸ z)
        · obtain ⟨C, dx, fs, y2, _⟩ := (ok.obj e).ex
          rw [y, show w1.H (ob O w1.σ) = _ from y2] at z
          cases z
    | br i => exact (hr i rfl).elim
end
section
variable {X : Cx} {k : Nat} {f : Addr} {fd : FuncData} {ps : List Str} {O Oi : List Kd} {mf : En → Option (D × En)} {r : Ak} {dd : List D} {dvs : List V} {ds : List Value} {x : Str} {p pos : Pos} {e : Expr} {es : List Expr} {ma : MA} {ks : List Ak}
theorem e_callD (G : FnG X.prog X.w X.K X.mg X.base CX0 k f fd ps (spF X.K Oi mf r)) (hgd : X.A.guards = some []) (hr : Room k X.A) (hm : X.mg x = some (.ref f)) (hk : PySem.W.keepIn X.K (.ref f) = true) (hb : Binds X.K fd ps ds) (hd : Vals dvs ds) (hdd : ∀ F : Hp, RpA X.K F dd dvs)
    (ha : PA X (e :: es) (tA X.K O ma ks)) (hs : sigOk O ks Oi = true := by rfl) (hln : ks.length + dd.length = Oi.length := by rfl) (hnl : noLk Oi = true := by rfl) (n1 : hasO Oi = false := by rfl) (hrr : ∀ i, r ≠ .br i := by exact fun _ z => by cases z) (hg : Gl X x := by rfl) (hdb : (x == ("__debug__" : Str)) = false := by decide)
    (he : starEach (e :: es) X.env = (false, eval e X.env) :: starEach es X.env := by rfl) (hpl : (backTo pos (starEach es X.env)).any (·.1) = false := by rfl) :
    PE X (.Call (.Name x p) (e :: es) [] pos) (tE X.K O (mCall mf ks dd ma) r) := by
  refine PEi (pe_callG G hgd hr hm hk hb hd (pass0 (X := X)) ha hg hdb he hpl) fun σ H Q ⟨F, ρ, d, ρ', ok, hm, q⟩ => ?_
  obtain ⟨⟨ds0, ρ1⟩, h1, h2⟩ := bind_some hm
  obtain ⟨es0, h3, h4⟩ := bind_some h2
  obtain ⟨⟨d1, out⟩, h5, h6⟩ := bind_some h4
  cases h6
  refine ⟨F, ρ, ds0, ρ1, ok, h1, fun vs F1 H1 ok1 st1 r1 => ?_⟩
  have hl := (r1.len h3).2
  obtain ⟨okc, own⟩ := call_ok (K := X.K) (O := O) (Oi := Oi) (dd := dd) (dvs := dvs) n1 (by omega) hs hdd st1 ok1 r1 h3
  refine ⟨F1, _, d1, out, okc, h5, fun v F2 H2 okr str rs => ?_⟩
  have hbr : ∀ (j i : Nat), ks[j]? = some (.br i) → ∃ v', ((vs ++ dvs).map some)[j]? = some (some v') ∧ sv O H1 σ i = some (some v') := fun j i ej => by
    obtain ⟨d', v', e', q1, q2, q3, _⟩ := r1.at h3 ej
    have hj := (List.getElem?_eq_some_iff.mp q1).1
    refine ⟨v', ?_, q3.1⟩
    rw [List.getElem?_map, List.getElem?_append_left hj, q1]
    rfl
  obtain ⟨a, b, c⟩ := call_back (K := X.K) (O := O) (Oi := Oi) (ks := ks) n1 hs hnl hrr st1 ok1 okc own hbr okr str rs (by omega)
  exact q v F2 H2 a b c
theorem e_call (G : FnG X.prog X.w X.K X.mg X.base CX0 k f fd ps (spF X.K Oi mf r)) (hgd : X.A.guards = some []) (hr : Room k X.A) (hm : X.mg x = some (.ref f)) (hk : PySem.W.keepIn X.K (.ref f) = true) (hb : Binds X.K fd ps [])
    (ha : PA X (e :: es) (tA X.K O ma ks)) (hs : sigOk O ks Oi = true := by rfl) (hln : ks.length + 0 = Oi.length := by rfl) (hnl : noLk Oi = true := by rfl) (n1 : hasO Oi = false := by rfl) (hrr : ∀ i, r ≠ .br i := by exact fun _ z => by cases z) (hg : Gl X x := by rfl) (hdb : (x == ("__debug__" : Str)) = false := by decide)
    (he : starEach (e :: es) X.env = (false, eval e X.env) :: starEach es X.env := by rfl) (hpl : (backTo pos (starEach es X.env)).any (·.1) = false := by rfl) :
    PE X (.Call (.Name x p) (e :: es) [] pos) (tE X.K O (mCall mf ks [] ma) r) := e_callD (dd := []) (dvs := []) G hgd hr hm hk hb .nil (fun _ => rfl) ha hs hln hnl n1 hrr hg hdb he hpl
end
theorem law_goes {P : Program} {w : World} {K : PySem.W.Frag} {mg mb : Str → Option Value} {k : Nat} {fa a : Addr} {fd : FuncData} {x : Str} {sp : Sp} {s1 : Shared} {its : List Value} {ns : List Int} (inS : K.In s1.heap) (hM : s1.heap.Ns mainGlobals mg) (hB : s1.heap.Ns builtinsNs mb)
    (hv : ∀ y : Str, y ≠ "__name__" → mb y = bootBuiltins y) (noLim : s1.heap.NoLimit) (noGen : s1.gens = #[]) (hA : s1.heap.get? a = some { cls := .type "list", data := .seq its.toArray }) (hin : IntsAre its ns) (small : ns.length ≤ sizeLine) (hr : Room k callerA)
    (G : ∀ base : Heap, K.In base → base.Ns mainGlobals mg → FnG P w K mg base CX0 k fa fd [x] sp) (bt : ∀ (s : Shared) (u : Value), BindsTo s fd ⟨[u], []⟩ [(x, u)])
    (hsp : ∀ H : Hp, SqL K H a (ns.map V.int) → sp [.ref a] H (fun v _ => v = .bl true) fun _ _ _ => False) :
    codeAny (model P w) callerA (.call (.ref fa) ⟨[.ref a], []⟩) (fun r s' => r = .ok (.ret (.bool true)) ∧ OldK s1.heap s'.heap ∧ s'.os = s1.os ∧ AllBare s'.gens) s1 := by
  have rv := vals_ints hin
  have cnt := hin.length
  -- H tracks at most the script, and that as a locked list
  have main : ∀ H : Hp, (∀ b u, H b = some u → b = a ∧ ∃ o xs, u = .frz o (.lst xs)) → SqL K H a (ns.map V.int) → HOk P w H s1.heap → (H a ≠ none → K.lookup a = none) →
      codeAny (model P w) callerA (.call (.ref fa) ⟨[.ref a], []⟩) (fun r s' => r = .ok (.ret (.bool true)) ∧ OldK s1.heap s'.heap ∧ s'.os = s1.os ∧ AllBare s'.gens) s1 := by
    intro H only hS hok hK
    have untr : ∀ {b : Addr} {o : Obj}, s1.heap.get? b = some o → (b = a → False) → H b = none := fun {b o} _ ne => by
      cases q : H b with
      | none => rfl
      | some u => exact (ne (only b u q).1).elim
    have hid : ∀ {b : Addr} {m : Str → Option Value}, s1.heap.Ns b m → (hidT s1.heap H).Ns b m := by
      rintro b m ⟨o, en, ep, g1, g2, g3⟩
      refine ⟨o, en, ep, hidT_get g1 (untr g1 fun z => ?_), g2, g3⟩
      subst z
      rw [hA] at g1
      cases g1
      cases g2
    have inB : K.In (hidT s1.heap H) := fun b o g => by
      refine hidT_get (inS b o g) ?_
      cases q : H b with
      | none => rfl
      | some u =>
        obtain ⟨z, _⟩ := only b u q
        subst z
        have y := hK (by rw [q]; exact fun z => by cases z)
        rw [y] at g
        cases g
    obtain ⟨mc, c1, c2⟩ := noLim
    have env0 : Env0 P w K mg (hidT s1.heap H) callerA [] s1 H :=
      { frames := rfl, mod := ⟨inB, hid hM, ⟨mb, hid hB, hv⟩, ⟨mc, hid c1, c2⟩⟩, bs := fun b o g => of_hidT g, bsz := Nat.le_of_eq (hidT_size _ _), funs := trivial, frf := fun b z => (List.not_mem_nil z).elim, hok := hok, bare := .of_eq noGen }
    refine codeAny_mono ((G _ inB (hid hM)).go callerA [] s1 H ⟨[.ref a], []⟩ [.ref a] [.ref a] _ _ rfl hr env0 (bt s1 (.ref a)) (.cons rfl .nil) (hsp H hS)) fun res s' h => ?_
    rcases res with e | fl
    · exact (h : False).elim
    · cases fl with
      | next => exact (h : False).elim
      | brk => exact (h : False).elim
      | cont => exact (h : False).elim
      | ret u =>
        obtain ⟨v, H', os, bare, un, hok', r', q⟩ := h
        have q : v = .bl true := q
        subst q
        have r' : u = Value.bool true := r'
        subst r'
        refine ⟨rfl, OldK.of_keep fun b o g => ?_, os, bare⟩
        cases q : H b with
        | none => exact un.keep b o g q (fun z => by cases z) (fun z => by cases z)
        | some u =>
          obtain ⟨_, ob, xs, z⟩ := only b u q
          subst z
          obtain ⟨e1, _⟩ := hok b _ q
          obtain ⟨e2, _⟩ := hok' b _ (un.frzs b ob _ q)
          rw [g] at e1
          cases e1
          exact e2
  cases hk : K.lookup a with
  | some o =>
    have g := inS a o hk
    rw [hA] at g
    cases g
    exact main (fun _ => none) (fun b u z => by cases z) (.inr ⟨_, its.toArray, _, hk, rfl, rfl, rfl, by rw [List.size_toArray, cnt]; exact small, by simpa using rv⟩) (fun b u z => by cases z) fun z => (z rfl).elim
  | none =>
    have at_a : (fun b => if b = a then some (HO.frz { cls := .type "list", data := .seq its.toArray } (.lst (ns.map V.int))) else none) a = some (HO.frz { cls := .type "list", data := .seq its.toArray } (.lst (ns.map V.int))) := if_pos rfl
    refine main (fun b => if b = a then some (.frz { cls := .type "list", data := .seq its.toArray } (.lst (ns.map V.int))) else none) (fun b u z => ?_) (.inl (.inr ⟨_, at_a⟩)) (fun b u z => ?_) fun _ => hk
    · by_cases hb : b = a
      · have z := (if_pos hb).symm.trans z
        cases z
        exact ⟨hb, _, _, rfl⟩
      · have z := (if_neg hb).symm.trans z
        cases z
    · by_cases hb : b = a
      · have z := (if_pos hb).symm.trans z
        cases z
        subst hb
        exact ⟨hA, by rw [List.length_map]; exact small, its, _, rv, hA⟩
      · have z := (if_neg hb).symm.trans z
        cases z
theorem walk_law {l : PySem.W.OpenLaw} {n k : Nat} {q : Program} {loose : List Str} {XP : (Str → Option Value) → Heap → Prop} {YP : World → Heap → Prop} {d : DefRec} {x : Str} (hn : l.most = some n) (small : n ≤ sizeLine) (hdf : d.params.defaults = []) (hr : Room k callerA)
    (G : ∀ (w : World) (mg : Str → Option Value) (fa : Addr) (h : Heap), YP w h → h.Ns mainGlobals mg → mg d.name = some (.ref fa) → ∃ (K : PySem.W.Frag) (fd : FuncData) (sp : Sp), K.In h ∧ (∀ (s : Shared) (u : Value), BindsTo s fd ⟨[u], []⟩ [(x, u)]) ∧
      (∀ (H : Hp) (a : Addr) (ns : List Int), ns.length ≤ n → SqL K H a (ns.map V.int) → sp [.ref a] H (fun v _ => v = .bl true) fun _ _ _ => False) ∧ ∀ base : Heap, K.In base → base.Ns mainGlobals mg → FnG l.prog w K mg base CX0 k fa fd [x] sp) :
    PySem.W.WalkO q loose XP YP l.row.toRowW d [] (fun f vs => PySem.call f vs) := by
  refine Att.attach_call hn hdf fun w s0 s1 mg mb fa o pm cd doc a its ns Gr Y ho hd hcd hmg hobj hints hlen hg => ?_
  obtain ⟨K, fd, sp, inS, bt, hsp, hF⟩ := G w mg fa _ Y Gr.T.g hmg
  exact law_goes inS Gr.T.g Gr.T.b Gr.T.builtins Gr.T.nolimit hg hobj hints (Nat.le_trans hlen small) hr hF bt fun H hS => hsp H a ns hlen hS
def wipeE (ρ : En) : List Nat → En
  | [] => ρ
  | v :: vs => (wipeE ρ vs).set v none
def restE (ρ0 : En) : List Nat → En → En
  | [], ρ => ρ
  | v :: vs, ρ => (restE ρ0 vs ρ).set v (ρ0.getD v none)
theorem wipeE_len {ρ : En} : ∀ {vs : List Nat}, (wipeE ρ vs).length = ρ.length
  | [] => rfl
  | v :: vs => by
    show ((wipeE ρ vs).set v none).length = _
    rw [List.length_set, wipeE_len]
theorem restE_len {ρ0 ρ : En} : ∀ {vs : List Nat}, (restE ρ0 vs ρ).length = ρ.length
  | [] => rfl
  | v :: vs => by
    show ((restE ρ0 vs ρ).set v _).length = _
    rw [List.length_set, restE_len]
theorem wipeE_get {ρ : En} {i : Nat} {d : D} : ∀ {vs : List Nat}, (wipeE ρ vs)[i]? = some (some d) → ρ[i]? = some (some d) ∧ i ∉ vs
  | [], h => ⟨h, by simp⟩
  | v :: vs, h => by
    rcases set_get (show ((wipeE ρ vs).set v none)[i]? = _ from h) with ⟨_, q⟩ | ⟨e, q⟩
    · cases q
    · obtain ⟨a, b⟩ := wipeE_get q
      exact ⟨a, fun z => by
        rcases List.mem_cons.mp z with z | z
        · exact e z.symm
        · exact b z⟩
theorem wipeE_out {ρ : En} {i : Nat} : ∀ {vs : List Nat}, i ∉ vs → (wipeE ρ vs)[i]? = ρ[i]?
  | [], _ => rfl
  | v :: vs, h => by
    show ((wipeE ρ vs).set v none)[i]? = _
    rw [List.getElem?_set_ne fun z => h (by rw [z]; exact List.mem_cons_self), wipeE_out fun z => h (List.mem_cons_of_mem _ z)]
theorem restE_get {ρ0 ρ : En} {i : Nat} {d : D} : ∀ {vs : List Nat}, (restE ρ0 vs ρ)[i]? = some (some d) → (i ∈ vs ∧ ρ0[i]? = some (some d)) ∨ (i ∉ vs ∧ ρ[i]? = some (some d))
  | [], h => .inr ⟨by simp, h⟩
  | v :: vs, h => by
    rcases set_get (show ((restE ρ0 vs ρ).set v (ρ0.getD v none))[i]? = _ from h) with ⟨e, q⟩ | ⟨e, q⟩
    · subst e
      refine .inl ⟨List.mem_cons_self, ?_⟩
      rw [List.getD_eq_getElem?_getD] at q
      cases z : ρ0[v]? with
      | none =>
        rw [z] at q
        cases q
      | some o =>
        rw [z] at q
        exact congrArg some q.symm
    · rcases restE_get q with ⟨a, b⟩ | ⟨a, b⟩
      · exact .inl ⟨List.mem_cons_of_mem _ a, b⟩
      · exact .inr ⟨fun z => by
          rcases List.mem_cons.mp z with z | z
          · exact e z.symm
          · exact a z, b⟩
theorem restE_out {ρ0 ρ : En} {i : Nat} : ∀ {vs : List Nat}, i ∉ vs → (restE ρ0 vs ρ)[i]? = ρ[i]?
  | [], _ => rfl
  | v :: vs, h => by
    show ((restE ρ0 vs ρ).set v _)[i]? = _
    rw [List.getElem?_set_ne fun z => h (by rw [z]; exact List.mem_cons_self), restE_out fun z => h (List.mem_cons_of_mem _ z)]
def fzAt (O : List Kd) : List Nat → Bool
  | [] => true
  | v :: vs => (decide (O[v]? = some .fz) && (decide (v < nl O) && (!hasO O || decide (v ≠ oi O)))) && fzAt O vs
theorem fzAt_all {O : List Kd} {v : Nat} : ∀ {vs : List Nat}, fzAt O vs = true → v ∈ vs → O[v]? = some .fz ∧ v < nl O ∧ (hasO O = true → v ≠ oi O)
  | [], _, h => by simp at h
  | a :: vs, h, m => by
    obtain ⟨h1, h2⟩ := Bool.and_eq_true_iff.mp (show (_ && fzAt O vs) = true from h)
    rcases List.mem_cons.mp m with e | e
    · rw [e]
      obtain ⟨h3, h4⟩ := Bool.and_eq_true_iff.mp h1
      obtain ⟨h5, h6⟩ := Bool.and_eq_true_iff.mp h4
      refine ⟨of_decide_eq_true h3, of_decide_eq_true h5, fun z => ?_⟩
      rw [z] at h6
      exact of_decide_eq_true (by simpa using h6)
    · exact fzAt_all h2 e
theorem fzAt_get {O : List Kd} {v : Nat} {vs : List Nat} (h : fzAt O vs = true) (m : v ∈ vs) : O[v]? = some .fz := (fzAt_all h m).1
section
variable {K : PySem.W.Frag} {O : List Kd} {F H : Hp} {σ : L2.St} {ρ : En} {vs : List Nat}
theorem wipe_get_out {i : Nat} : ∀ {vs : List Nat}, i ∉ vs → (wipe σ vs)[i]? = σ[i]?
  | [], _ => rfl
  | v :: vs, h => by
    show ((wipe σ vs).set v none)[i]? = _
    rw [List.getElem?_set_ne fun z => h (by rw [z]; exact List.mem_cons_self), wipe_get_out fun z => h (List.mem_cons_of_mem _ z)]
theorem wipe_get_in {i : Nat} (hi : i < σ.length) : ∀ {vs : List Nat}, i ∈ vs → (wipe σ vs)[i]? = some none
  | [], h => by simp at h
  | v :: vs, h => by
    show ((wipe σ vs).set v none)[i]? = _
    by_cases e : v = i
    · subst e
      rw [List.getElem?_set_self (by rw [wipe_length]; exact hi)]
    · rw [List.getElem?_set_ne e]
      rcases List.mem_cons.mp h with z | z
      · exact (e z.symm).elim
      · exact wipe_get_in hi z
theorem wipe_eq {σ' : L2.St} (hl : σ'.length = σ.length) (h : ∀ j, j ∉ vs → σ'[j]? = σ[j]?) : wipe σ' vs = wipe σ vs := by
  refine List.ext_getElem? fun i => ?_
  by_cases m : i ∈ vs
  · by_cases hi : i < σ.length
    · rw [wipe_get_in hi m, wipe_get_in (by omega) m]
    · rw [List.getElem?_eq_none (by rw [wipe_length]; omega), List.getElem?_eq_none (by rw [wipe_length]; omega)]
  · rw [wipe_get_out m, wipe_get_out m, h i m]
theorem wipe_idem : wipe (wipe σ vs) vs = wipe σ vs := wipe_eq (wipe_length σ vs) fun j hj => wipe_get_out hj
theorem ob_wipe (hv : fzAt O vs = true) (e : hasO O = true) : ob O (wipe σ vs) = ob O σ := by
  unfold ob
  rw [wipe_get_out fun m => (fzAt_all hv m).2.2 e rfl]
theorem sv_wipe (hv : fzAt O vs = true) {H : Hp} {i : Nat} (hi : i ∉ vs) : sv O H (wipe σ vs) i = sv O H σ i := by
  by_cases hj : i < nl O
  · rw [sv_loc hj, sv_loc hj, wipe_get_out hi]
  · refine sv_ob ?_ hj
    cases e : hasO O with
    | false => exact .inl rfl
    | true => exact .inr (ob_wipe hv e)
theorem own_wipe (hv : fzAt O vs = true) {F' : Hp} {i : Nat} {p : Addr} : OwnAt O ⟨F', H, wipe σ vs, wipeE ρ vs⟩ i p ↔ OwnAt O ⟨F, H, σ, ρ⟩ i p := by
  have ni : ∀ {k : Kd}, O[i]? = some k → k.own = true → i ∉ vs := fun {k} h1 h2 m => by
    rw [fzAt_get hv m] at h1
    cases h1
    cases h2
  constructor
  · rintro ⟨k, d, h1, h2, h3, h4⟩
    have z := ni h1 h2
    have h3 : (wipeE ρ vs)[i]? = _ := h3
    rw [wipeE_out z] at h3
    exact ⟨k, d, h1, h2, h3, (sv_wipe hv z).symm.trans h4⟩
  · rintro ⟨k, d, h1, h2, h3, h4⟩
    have z := ni h1 h2
    exact ⟨k, d, h1, h2, by show (wipeE ρ vs)[i]? = _; rw [wipeE_out z]; exact h3, (sv_wipe hv z).trans h4⟩
theorem Ok.wipe (hv : fzAt O vs = true) (ok : Ok K O ⟨F, H, σ, ρ⟩) : Ok K O ⟨F, H, wipe σ vs, wipeE ρ vs⟩ := by
  refine ⟨ok.sub, (wipe_length σ vs).trans ok.ls, wipeE_len.trans ok.lr, fun i d h1 h2 => ?_, fun i k d h1 h2 h3 => ?_, fun i j p h1 h2 => ok.ap i j p ((own_wipe hv).mp h1) ((own_wipe hv).mp h2), fun e => ?_, ok.tb⟩
  · obtain ⟨g1, g2⟩ := wipeE_get h2
    obtain ⟨v, g3, g4⟩ := ok.fz i d h1 g1
    exact ⟨v, (sv_wipe hv g2).trans g3, g4⟩
  · obtain ⟨g1, g2⟩ := wipeE_get h3
    obtain ⟨p, g3, g4⟩ := ok.ow i k d h1 h2 g1
    exact ⟨p, (sv_wipe hv g2).trans g3, g4⟩
  · obtain ⟨a0, a1, ⟨C, dx, fs, a2, a3⟩, a4, a5, a6⟩ := ok.obj e
    have eo : ob O (L2.wipe σ vs) = ob O σ := ob_wipe hv e
    refine ⟨?_, a1, ⟨C, dx, fs, by rw [eo]; exact a2, by rw [eo]; exact a3⟩, by rw [eo]; exact a4, by rw [eo]; exact fun ⟨i, h⟩ => a5 ⟨i, (own_wipe hv).mp h⟩, by rw [eo]; exact a6⟩
    rw [eo]
    show (L2.wipe σ vs)[oi O]? = _
    rw [wipe_get_out fun m => (fzAt_all hv m).2.2 e rfl]
    exact a0
theorem StpS.wipe (hv : fzAt O vs = true) {w : Wd} (st : StpS O w ⟨F, H, σ, ρ⟩) : StpS O w ⟨F, H, wipe σ vs, wipeE ρ vs⟩ := by
  have ni : ∀ {i : Nat} {k : Kd}, O[i]? = some k → k.pin = true → i ∉ vs := fun {i k} h1 h2 m => by
    rw [fzAt_get hv m] at h1
    cases h1
    cases h2
  refine ⟨st.ex, st.kp, st.nw, fun b ⟨i, h⟩ => st.fp b ⟨i, (own_wipe hv).mp h⟩, fun i k h1 h2 => ?_, fun i k h1 h2 => ?_, st.lo, fun e => ?_, st.tb⟩
  · exact (sv_wipe hv (ni h1 h2)).trans (st.pn i k h1 h2)
  · show (wipeE ρ vs)[i]? = _
    rw [wipeE_out (ni h1 (Kd.pin_of h2))]
    exact st.lk i k h1 h2
  · exact ⟨(ob_wipe hv e).trans (st.o0 e).1, (st.o0 e).2⟩
theorem Stp.wipe (hv : fzAt O vs = true) {w : Wd} (st : Stp O w ⟨F, H, σ, ρ⟩) : Stp O w ⟨F, H, wipe σ vs, wipeE ρ vs⟩ := ⟨st.toStpS.wipe hv, st.ost⟩
end
structure Acc (K : PySem.W.Frag) (L : List Kd) (w1 : Wd) (Dl : Addr) (w : Wd) (acc : List D) : Prop where
  ok : Ok K L w
  st : Stp L w1 w
  at_ : ∃ xs, w.H Dl = some (.lst xs) ∧ RpA K w.F acc xs
  nf : w.F Dl = none
  np : ¬ Fp L w Dl
  fr : w1.H Dl = none
  no : hasO L = true → Dl ≠ ob L w.σ
section
variable {K : PySem.W.Frag} {L : List Kd} {w1 w w' : Wd} {Dl : Addr} {acc : List D}
theorem Acc.step (a : Acc K L w1 Dl w acc) (ok : Ok K L w') (st : Stp L w w') : Acc K L w1 Dl w' acc := by
  obtain ⟨xs, h1, h2⟩ := a.at_
  exact ⟨ok, a.st.trans st, ⟨xs, st.kp' h1 a.np, h2.mono st.ex⟩, st.nw _ _ h1 a.np a.nf, st.nofp h1 a.np, a.fr, fun e => by rw [(st.o0 e).1]; exact a.no e⟩
theorem Acc.wipe {vs : List Nat} (hv : fzAt L vs = true) (a : Acc K L w1 Dl w acc) : Acc K L w1 Dl ⟨w.F, w.H, wipe w.σ vs, wipeE w.ρ vs⟩ acc :=
  ⟨a.ok.wipe hv, a.st.wipe hv, a.at_, a.nf, fun ⟨i, h⟩ => a.np ⟨i, (own_wipe hv).mp h⟩, a.fr, fun e => by show Dl ≠ ob L (L2.wipe w.σ vs); rw [ob_wipe hv e]; exact a.no e⟩
theorem Acc.push {d : D} {v : V} {xs : List V} (a : Acc K L w1 Dl w acc) (hx : w.H Dl = some (.lst xs)) (r : Rp K w.F d v) : Acc K L w1 Dl ⟨w.F, upd w.H Dl (.lst (xs ++ [v])), w.σ, w.ρ⟩ (acc ++ [d]) := by
  obtain ⟨ys, h1, h2⟩ := a.at_
  rw [hx] at h1
  cases h1
  have hne : ∀ {b : Addr}, Fp L w b → b ≠ Dl := fun {b} h z => a.np (by rw [← z]; exact h)
  have hO : hasO L = true → upd w.H Dl (.lst (xs ++ [v])) (ob L w.σ) = w.H (ob L w.σ) := fun e => upd_ne fun z => a.no e z.symm
  have hsv : ∀ j, sv L (upd w.H Dl (.lst (xs ++ [v]))) w.σ j = w.sv L j := fun j => sv_same hO
  have hfp : ∀ {b : Addr}, Fp L ⟨w.F, upd w.H Dl (.lst (xs ++ [v])), w.σ, w.ρ⟩ b ↔ Fp L w b := fp_same hO
  have hat : ∀ {i : Nat} {b : Addr}, OwnAt L ⟨w.F, upd w.H Dl (.lst (xs ++ [v])), w.σ, w.ρ⟩ i b ↔ OwnAt L w i b := own_same hO
  refine ⟨⟨fun b u hb => ?_, a.ok.ls, a.ok.lr, fun i d' e1 e2 => ?_, fun i k d' e1 e2 e3 => ?_, fun i j p e1 e2 => a.ok.ap i j p (hat.mp e1) (hat.mp e2), fun e => ?_, fun P hP => ok_put hx nt_lst (a.ok.tb P hP)⟩, ⟨⟨a.st.ex, fun b o hb z _ => ?_, fun b o hb z f => a.st.nw b o hb z f, fun b h => a.st.fp b (hfp.mp h), fun i k e1 e2 => (hsv i).trans (a.st.pn i k e1 e2), a.st.lk, fun i k p d' e1 e2 e3 e4 => ?_, fun e => ⟨(a.st.o0 e).1, fun z => ?_⟩, fun P h => tab_put hx nt_lst (a.st.tb P h)⟩, fun e => ?_⟩, ⟨xs ++ [v], upd_same, h2.append (.cons r .nil)⟩, a.nf, fun h => a.np (hfp.mp h), a.fr, a.no⟩
  · show upd w.H Dl _ b = _
    rw [upd_ne (ne_of_none hb a.nf)]
    exact a.ok.sub b u hb
  · obtain ⟨u, g1, g2⟩ := a.ok.fz i d' e1 e2
    exact ⟨u, (hsv i).trans g1, g2⟩
  · obtain ⟨p, g1, g2, o, g3, g4⟩ := a.ok.ow i k d' e1 e2 e3
    exact ⟨p, (hsv i).trans g1, g2, o, by show upd w.H Dl _ p = _; rw [upd_ne (hne ⟨i, k, d', e1, e2, e3, g1⟩)]; exact g3, g4⟩
  · obtain ⟨a0, a1, ⟨C, dx, fs, a2, a3⟩, a4, a5, a6⟩ := a.ok.obj e
    have hd : dx ≠ Dl := fun z => by
      rw [z, hx] at a3
      cases a3
    exact ⟨a0, a1, ⟨C, dx, fs, (hO e).trans a2, by show upd w.H Dl _ dx = _; rw [upd_ne hd]; exact a3⟩, a4, fun h => a5 (hfp.mp h), fun C dx fs z => a6 C dx fs ((hO e).symm.trans z)⟩
  · show KH o (upd w.H Dl _ b)
    rw [upd_ne (ne_of_none hb a.fr)]
    exact a.st.kp' hb z
  · have g := a.st.lo i k p d' e1 e2 e3 e4
    show upd w.H Dl _ p = _
    rw [upd_ne (hne ⟨i, k, d', e1, Kd.own_of e2, (a.st.lk i k e1 e2).trans e3, (a.st.pn i k e1 (Kd.pin_of e2)).trans e4⟩)]
    exact g
  · have y := (a.st.o0 e).2 z
    have y2 := hO e
    rw [(a.st.o0 e).1] at y2
    exact fun q => y (y2.symm.trans q)
  · have y2 := hO e
    rw [(a.st.o0 e).1] at y2
    exact y2.trans (a.st.ost e)
theorem Acc.new (ok : Ok K L w) (st : Stp L w1 w) (h : w.H Dl = none) (h1 : w1.H Dl = none) : Acc K L w1 Dl ⟨w.F, upd w.H Dl (.lst []), w.σ, w.ρ⟩ [] := by
  have pu := Pur.owned (F := w.F) ok.sub h (.lst [])
  obtain ⟨a, b⟩ := ok.pur pu
  have no : hasO L = true → Dl ≠ ob L w.σ := fun e z => by
    obtain ⟨C, dx, fs, y, _⟩ := (ok.obj e).ex
    rw [z, y] at h
    cases h
  exact ⟨a, st.trans b, ⟨[], upd_same, rfl⟩, ok.sub.free h, fun z => (by
    obtain ⟨_, o, q⟩ := ok.ownF (p := Dl) ((fp_same (F := w.F) (H := w.H) b.ost).mp z)
    rw [h] at q
    cases q), h1, no⟩
end
theorem in_it {J : It} {n : Nat} {G : Hp → Prop} {Y : Nat → Hp → V → Hp → Prop} (w : Walk J n G Y) {Nx : Hp → Prop} {Body : (Hp → Prop) → V → Hp → Prop} {H : Hp} (Pv : Nat → Hp → Prop) (h0 : Pv 0 H) (hG : ∀ i H, i ≤ n → Pv i H → G H)
    (hs : ∀ i x H H', i < n → Pv i H → Y i H x H' → Body (Pv (i + 1)) x H') (hd : ∀ H, Pv n H → Nx H) :
    ∃ W : Nat → Nat → Hp → Prop, (∃ m, W 0 m H) ∧ ∀ i m H, W i m H → (J.stop i H ∧ Nx H) ∨ (J.go i H ∧ ∃ N : Hp → Prop, (∀ H', N H' → ∃ m', m' < m ∧ W (i + 1) m' H') ∧ ∀ x H', J.yld i H x H' → Body N x H') := by
  refine ⟨fun i m H => m = n - i ∧ i ≤ n ∧ Pv i H, ⟨n, rfl, Nat.zero_le _, h0⟩, ?_⟩
  rintro i m H ⟨rfl, hi, p⟩
  have g := hG i H hi p
  by_cases lt : i < n
  · exact .inr ⟨w.goes i H lt g, Pv (i + 1), fun H' p' => ⟨n - (i + 1), by omega, rfl, lt, p'⟩, fun x H' y => hs i x H H' lt p (w.yields i H x H' lt g y)⟩
  · have e : i = n := by omega
    subst e
    exact .inl ⟨w.stops H g, hd H p⟩
def mYes : MT := fun ρ => some (true, ρ)
def mLcL : List D → MG → MT → M → List Nat → List D → En → Option (List D × En)
  | [], _, _, _, _, acc, ρ => some (acc, ρ)
  | d :: ds, g, t, e, vs, acc, ρ => (g d (wipeE ρ vs)).bind fun ρ1 => (t ρ1).bind fun p => if p.1 = true then (e p.2).bind fun q => if acc.length < 1000000 then mLcL ds g t e vs (acc ++ [q.1]) q.2 else none
      else mLcL ds g t e vs acc p.2
def mLc (mi : MI) (g : MG) (t : MT) (e : M) (vs : List Nat) : M := fun ρ => (mi ρ).bind fun p => (mLcL p.1 g t e vs [] p.2).map fun q => (.list q.1, restE p.2 vs q.2)
def subL (is vs : List Nat) : Bool := is.all fun i => decide (i ∈ vs)
section
variable {K : PySem.W.Frag} {O L : List Kd} {g g1 : MG} {t t1 : MT} {e : M} {vs vs1 is is1 : List Nat} {σ : L2.St} {H : Hp} {Q : VK} {mi mi1 : MI}
theorem turn_elt {w1 w : Wd} {Dl : Addr} {acc acc' : List D} {ρ' : En} {ds : List D} {Nx : Hp → Prop} (a : Acc K L w1 Dl w acc)
    (hm : ((t w.ρ).bind fun p => if p.1 = true then (e p.2).bind fun q => if acc.length < 1000000 then mLcL ds g t e vs (acc ++ [q.1]) q.2 else none else mLcL ds g t e vs acc p.2) = some (acc', ρ'))
    (I : Wd → Prop) (i0 : I w) (hI : ∀ u u', I u → Stp L u u' → I u') (hP : ∀ u xs, I u → ¬ Fp L u Dl → (hasO L = true → Dl ≠ ob L u.σ) → I ⟨u.F, upd u.H Dl (.lst xs), u.σ, u.ρ⟩)
    (k : ∀ w2 acc2, Acc K L w1 Dl w2 acc2 → I w2 → w2.σ = w.σ → mLcL ds g t e vs acc2 w2.ρ = some (acc', ρ') → Nx w2.H) :
    tT K L t w.σ w.H fun b H3 => if b = true then tE K L e .fz w.σ H3 fun y H4 => ∃ xs, H4 Dl = some (.lst xs) ∧ xs.length < sizeLine ∧ Nx (upd H4 Dl (.lst (xs ++ [y]))) else Nx H3 := by
  obtain ⟨⟨b, ρ2⟩, e1, e2⟩ := bind_some hm
  refine ⟨w.F, w.ρ, b, ρ2, a.ok, e1, fun F3 H3 ok3 st3 => ?_⟩
  have a3 := a.step ok3 st3
  have i3 := hI _ _ i0 st3
  cases b with
  | false =>
    dsimp only at e2 ⊢
    rw [if_neg Bool.false_ne_true] at e2 ⊢
    exact k _ _ a3 i3 rfl e2
  | true =>
    dsimp only at e2 ⊢
    rw [if_pos rfl] at e2 ⊢
    obtain ⟨⟨d, ρ3⟩, e3, e4⟩ := bind_some e2
    dsimp only at e4
    split at e4
    · rename_i hlt
      refine ⟨F3, ρ2, d, ρ3, ok3, e3, fun v F4 H4 ok4 st4 r4 => ?_⟩
      have a4 := a3.step ok4 st4
      obtain ⟨xs, x1, x2⟩ := a4.at_
      refine ⟨xs, x1, ?_, k _ _ (a4.push x1 r4) (hP _ _ (hI _ _ i3 st4) a4.np a4.no) rfl e4⟩
      rw [x2.length]
      exact Nat.lt_of_lt_of_le hlt (by decide)
    · cases e4
theorem lc_fin {F F1 H1 F2 H2 : Hp} {ρ ρ1 ρe : En} {Dl : Addr} {acc : List D} (hv : fzAt L vs = true) (hl : lkOf O L = true) (ok1 : Ok K O ⟨F1, H1, σ, ρ1⟩) (st1 : Stp O ⟨F, H, σ, ρ⟩ ⟨F1, H1, σ, ρ1⟩) (hD : H1 Dl = none)
    (a2 : Acc K L ⟨F1, H1, σ, ρ1⟩ Dl ⟨F2, H2, wipe σ vs, wipeE ρe vs⟩ acc) (l2 : ρe.length = O.length)
    (q : ∀ v F' H', Ok K O ⟨F', H', σ, restE ρ1 vs ρe⟩ → Stp O ⟨F, H, σ, ρ⟩ ⟨F', H', σ, restE ρ1 vs ρe⟩ → Rs K O ⟨F, H, σ, ρ⟩ ⟨F', H', σ, restE ρ1 vs ρe⟩ .ow (.list acc) v → Q v H') : Q (.ref Dl) H2 := by
  obtain ⟨xs, x1, x2⟩ := a2.at_
  have l1 : ρ1.length = O.length := ok1.lr
  have ow_of : ∀ {i : Nat} {p : Addr}, OwnAt O ⟨F2, H2, σ, restE ρ1 vs ρe⟩ i p → OwnAt L ⟨F2, H2, wipe σ vs, wipeE ρe vs⟩ i p := fun {i p} ⟨k, d', h1, h2, h3, h4⟩ => by
    have o : OwnAt L ⟨F2, H2, σ, restE ρ1 vs ρe⟩ i p := (lk_at hl).mpr ⟨k, d', h1, h2, h3, h4⟩
    obtain ⟨k, d', h1, h2, h3, h4⟩ := o
    have ni : i ∉ vs := fun m => by
      rw [fzAt_get hv m] at h1
      cases h1
      cases h2
    refine (own_wipe (F := F2) (H := H2) hv).mpr ⟨k, d', h1, h2, ?_, h4⟩
    have h3 : (restE ρ1 vs ρe)[i]? = _ := h3
    rw [restE_out ni] at h3
    exact h3
  have st2 := a2.st.unlock hl
  have svO : ∀ i, sv O H2 σ i = sv O H1 σ i := fun i => sv_same st2.ost
  have hob : hasO O = true → ob L (wipe σ vs) = ob O σ := fun e => (ob_wipe hv ((lk_has hl).trans e)).trans (lk_ob hl σ)
  refine q (.ref Dl) F2 H2 ⟨a2.ok.sub, ok1.ls, by show (restE ρ1 vs ρe).length = _; rw [restE_len]; exact l2, fun i d' h1 h2 => ?_, fun i k d' h1 h2 h3 => ?_, fun i j p h1 h2 => a2.ok.ap i j p (ow_of h1) (ow_of h2), fun e => ?_, a2.ok.tb⟩
    (st1.trans ⟨⟨a2.st.ex, st2.kp, st2.nw, fun b ⟨i, h⟩ => ?_, fun i _ _ _ => svO i, fun i k h1 h2 => ?_, st2.lo, fun e => ⟨rfl, (st2.o0 e).2⟩, st2.tb⟩, st2.ost⟩) ⟨Dl, rfl, a2.nf, ⟨_, x1, xs, rfl, x2⟩, fun ⟨i, h⟩ => a2.np ⟨i, ow_of h⟩, st1.back hD, fun e => by show Dl ≠ ob O σ; rw [← hob e]; exact a2.no ((lk_has hl).trans e)⟩
  · rcases restE_get h2 with ⟨m, z⟩ | ⟨m, z⟩
    · obtain ⟨v, g1, g2⟩ := ok1.fz i d' h1 z
      exact ⟨v, (svO i).trans g1, g2.mono a2.st.ex⟩
    · obtain ⟨a', u1, u2⟩ := (lk_get hl).1 _ h1
      have u3 : L[i]? = some Kd.fz := by
        rcases u2 with u2 | ⟨u2, _⟩ | ⟨u2, _⟩
        · rw [u2]
          exact u1
        · cases u2
        · cases u2
      obtain ⟨v, g1, g2⟩ := a2.ok.fz i d' u3 (show (wipeE ρe vs)[i]? = _ by rw [wipeE_out m]; exact z)
      exact ⟨v, (lk_sv hl).symm.trans ((sv_wipe hv m).symm.trans g1), g2⟩
  · obtain ⟨a', u1, u2⟩ := (lk_get hl).1 _ h1
    have ni : i ∉ vs := fun m => by
      have z := fzAt_get hv m
      rw [u1] at z
      cases z
      rw [u2.own] at h2
      cases h2
    have h3 : (restE ρ1 vs ρe)[i]? = _ := h3
    rw [restE_out ni] at h3
    obtain ⟨p, g1, g2⟩ := a2.ok.ow i a' d' u1 (u2.own.symm.trans h2) (show (wipeE ρe vs)[i]? = _ by rw [wipeE_out ni]; exact h3)
    exact ⟨p, (lk_sv hl).symm.trans ((sv_wipe hv ni).symm.trans g1), g2⟩
  · obtain ⟨b0, b1, ⟨C, dx, fs, b2, b3⟩, b4, b5, b6⟩ := a2.ok.obj ((lk_has hl).trans e)
    have eo := hob e
    have eo : ob L (L2.wipe σ vs) = ob O σ := eo
    rw [eo] at b2 b3 b4 b5 b6
    rw [lk_cn hl, lk_ats hl] at b6
    exact ⟨(ok1.obj e).at0, (ok1.obj e).n0, ⟨C, dx, fs, b2, b3⟩, b4, fun ⟨i, h⟩ => b5 ⟨i, ow_of h⟩, b6⟩
  · exact st2.fp b ((lk_fp hl).mp ⟨i, ow_of h⟩)
  · obtain ⟨a', u1, u2⟩ := (lk_get hl).1 _ h1
    have ni : i ∉ vs := fun m => by
      have z := fzAt_get hv m
      rw [u1] at z
      cases z
      have := u2.lock h2
      cases this
    have z := st2.lk i k h1 h2
    show (restE ρ1 vs ρe)[i]? = _
    rw [restE_out ni]
    have z : (wipeE ρe vs)[i]? = ρ1[i]? := z
    rw [wipeE_out ni] at z
    exact z
theorem tLc_of (hv : fzAt L vs = true) (hl : lkOf O L = true) (his : subL is vs = true) (h : tE K O (mLc mi g t e vs) .ow σ H Q) : tLc (tI K O L mi) (tG K L g is) (tT K L t) (tE K L e .fz) vs σ H Q := by
  obtain ⟨F, ρ, d, ρ', ok, hm, q⟩ := h
  obtain ⟨⟨ds, ρ1⟩, e1, e2⟩ := bind_some hm
  obtain ⟨⟨acc, ρe⟩, e3, e4⟩ := map_some e2
  cases e4
  refine ⟨F, ρ, ds, ρ1, ok, e1, fun J F1 H1 G ok1 st1 wk hG Dl hD => ?_⟩
  have sub : ∀ i, i ∈ is → i ∈ vs := fun i hi => of_decide_eq_true (List.all_eq_true.mp his i hi)
  have okL := ok1.lock hl
  have a0 : Acc K L ⟨F1, H1, σ, ρ1⟩ Dl ⟨F1, upd H1 Dl (.lst []), wipe σ vs, wipeE ρ1 vs⟩ [] := (Acc.new okL (.refl _ _) hD hD).wipe hv
  refine in_it wk (fun i H2 => ∃ F2 ρ2 a, Acc K L ⟨F1, H1, σ, ρ1⟩ Dl ⟨F2, H2, wipe σ vs, wipeE ρ2 vs⟩ a ∧ ρ2.length = O.length ∧ mLcL (ds.drop i) g t e vs a ρ2 = some (acc, ρe))
    ⟨F1, ρ1, [], a0, ok1.lr, e3⟩ (fun i H2 _ ⟨F2, ρ2, a, a2, _, _⟩ => hG Zno zno _ a2.ok (a2.st.q _)) (fun i x H2 H3 hi ⟨F2, ρ2, a, a2, l2, m2⟩ y => ?_) fun H2 ⟨F2, ρ2, a, a2, l2, m2⟩ => ?_
  · obtain ⟨F3, pu, d, hd, rp⟩ := y F2 a2.st.ex a2.ok.sub
    rw [drop_get hd] at m2
    obtain ⟨ρ3, g1, g2⟩ := bind_some m2
    obtain ⟨ok3, st3⟩ := a2.ok.pur pu
    have a3 := a2.step ok3 st3
    refine ⟨F3, wipeE ρ2 vs, d, ρ3, ok3, rp, g1, fun σ4 ok4 st4 cov => ?_⟩
    have a4 := a3.step ok4 st4
    have hw : wipe σ4 vs = wipe σ vs := by
      have l4 : σ4.length = (wipe σ vs).length := ok4.ls.trans ok3.ls.symm
      rw [wipe_eq l4 fun j hj => cov j fun z => hj (sub j z), wipe_idem]
    refine ⟨hw, turn_elt a4 g2 (fun _ => True) trivial (fun _ _ _ _ => trivial) (fun _ _ _ _ _ => trivial) fun w2 acc2 a5 _ hs m5 => ⟨w2.F, w2.ρ, acc2, ?_, (a5.ok.lr).trans (lk_len hl).symm, m5⟩⟩
    have a6 := a5.wipe hv
    rw [hs, hw] at a6
    exact a6
  · rw [List.drop_length] at m2
    cases m2
    exact lc_fin hv hl ok1 st1 hD a2 l2 q
end
section
variable {X : Cx} {O L : List Kd} {elt tg iter tg1 iter1 : Expr} {ifs ifs1 : List Expr} {scope : Scope} {own : List (Str × Nat)} {pos spos : Pos} {mi mi1 : MI} {g g1 : MG} {is is1 vs1 : List Nat} {t t1 : MT} {e : M} {r : Ak}
theorem PTsi {X : Cx} {t t' : TT} (h : PTs X ifs t) (k : ∀ σ H Q, t' σ H Q → t σ H Q) : PTs X ifs t' := ⟨fun pins s σ H Q I q => h.run pins s σ H Q I (k σ H Q q)⟩
theorem ts_nil {X : Cx} {K : PySem.W.Frag} : PTs X [] (tT K L mYes) := PTsi pts_nil fun σ H Q ⟨F, ρ, b, ρ', ok, hm, q⟩ => by
  cases hm
  exact q F H ok (.refl _ _)
theorem ts_one {X : Cx} {c : Expr} {K : PySem.W.Frag} (h : PT X c (tT K L t)) : PTs X [c] (tT K L t) := pts_one h
theorem e_lc (hc : X.calm = true) (hN : X.N.Nodup) (hi : PI X tg iter (tI X.K O L mi)) (ok : BlkOk X.N X.env.scope scope own)
    (hg : ∀ (s : Shared) (H : Hp) (C : Addr) (cl : List (Str × Addr)) (fp : List Addr), PG (X.blk s H scope (compEnvC scope cl C X.env) fp) tg (tG X.K L g is)) (ht : ∀ (s : Shared) (H : Hp) (C : Addr) (cl : List (Str × Addr)) (fp : List Addr), PTs (X.blk s H scope (compEnvC scope cl C X.env) fp) ifs (tT X.K L t))
    (he : ∀ (s : Shared) (H : Hp) (C : Addr) (cl : List (Str × Addr)) (fp : List Addr), PE (X.blk s H scope (compEnvC scope cl C X.env) fp) elt (tE X.K L e .fz)) (hv : fzAt L (own.map (·.2)) = true := by rfl) (hl : lkOf O L = true := by rfl) (his : subL is (own.map (·.2)) = true := by rfl) (hs : ∀ x, foldedSetIterable iter X.env x = pure x := by intro _; rfl) :
    PE X (.ListComp elt [⟨tg, iter, ifs, 0⟩] scope pos) (tE X.K O (mLc mi g t e (own.map (·.2))) .ow) := PEi (pe_lc hc hN hi ok hg ht he hs) fun _ _ _ h => tLc_of hv hl his h
theorem asg_imp {te te' : TE} {i : Nat} {D : Ends} {σ : L2.St} {H : Hp} (k : ∀ σ H Q, te' σ H Q → te σ H Q) (h : tAsg te' (gName i) D σ H) : tAsg te (gName i) D σ H := k _ _ _ h
theorem frzE {K : PySem.W.Frag} {m : M} {σ : L2.St} {H : Hp} {Q : VK} (h : tE K O m .fz σ H Q) : tE K O m .ow σ H Q := by
  obtain ⟨F, ρ, d, ρ', ok, hm, k⟩ := h
  refine ⟨F, ρ, d, ρ', ok, hm, fun v F' H' ok' st r => ?_⟩
  obtain ⟨F2, a, b, c⟩ := frz_out ok' st r
  exact k v F2 H' a b c
theorem s_lcF (i : Nat) {y : Str} {py : Pos} (hc : X.calm = true) (hN : X.N.Nodup) (hi : PI X tg iter (tI X.K O L mi)) (ok : BlkOk X.N X.env.scope scope own)
    (hg : ∀ (s : Shared) (H : Hp) (C : Addr) (cl : List (Str × Addr)) (fp : List Addr), PG (X.blk s H scope (compEnvC scope cl C X.env) fp) tg (tG X.K L g is)) (ht : ∀ (s : Shared) (H : Hp) (C : Addr) (cl : List (Str × Addr)) (fp : List Addr), PTs (X.blk s H scope (compEnvC scope cl C X.env) fp) ifs (tT X.K L t))
    (he : ∀ (s : Shared) (H : Hp) (C : Addr) (cl : List (Str × Addr)) (fp : List Addr), PE (X.blk s H scope (compEnvC scope cl C X.env) fp) elt (tE X.K L e .fz)) (hsw : swapsWith (.ListComp elt [⟨tg, iter, ifs, 0⟩] scope pos) (some (.Name y py)) spos.line X.env = pure true)
    (hO : O[i]? = some Kd.fz := by rfl) (hlc : i < nl O := by decide) (h0 : hasO O = false ∨ i ≠ oi O := by decide) (hy : X.N[i]? = some y := by rfl) (hyl : X.env.scope.names.lookup y = some .local := by rfl) (hv : fzAt L (own.map (·.2)) = true := by rfl) (hl : lkOf O L = true := by rfl) (his : subL is (own.map (·.2)) = true := by rfl) (hs : ∀ x, foldedSetIterable iter X.env x = pure x := by intro _; rfl) :
    PS X (.Assign [.Name y py] (.ListComp elt [⟨tg, iter, ifs, 0⟩] scope pos) spos) (tS X.K O (mSet i (mLc mi g t e (own.map (·.2)))) r) :=
  PSi (ps_setLc hc hN hy hyl hsw hi ok hg ht he hs) fun _ _ _ h => asg_imp (fun _ _ _ z => tLc_of hv hl his (frzE z)) (asgFz hO hlc h0 h)
end
section
variable {X : Cx} {O L : List Kd} {e a b : Expr} {es : List Expr} {ma : MA} {m mb : M} {ks : List Ak} {ka kb k : Ak} {op : List D → Option D} {x : Str} {p pos : Pos} {r : List V → Hp → VK → Prop} {id T : String}
theorem e_blt (hc : CallR X (.builtin id) r) (hs : LSem X.K r op k) (hm : X.mg x = none) (hv : bootBuiltins x = some (.builtin id)) (ha : PA X (e :: es) (tA X.K O ma ks)) (hg : Gl X x := by rfl) (hn : x ≠ "__name__" := by decide) (hdb : (x == ("__debug__" : Str)) = false := by decide)
    (he : starEach (e :: es) X.env = (false, eval e X.env) :: starEach es X.env := by rfl) (hpl : (backTo pos (starEach es X.env)).any (·.1) = false := by rfl) : PE X (.Call (.Name x p) (e :: es) [] pos) (tE X.K O (mOp ks ma op) k) :=
  PEi (pe_callB hc hg hm hv ha hn hdb he hpl) fun _ _ _ h => tA_op hs h
theorem e_bty (hc : CallR X (.type T) r) (hs : LSem X.K r op k) (hm : X.mg x = none) (hv : bootBuiltins x = some (.type T)) (ha : PA X (e :: es) (tA X.K O ma ks)) (hg : Gl X x := by rfl) (hn : x ≠ "__name__" := by decide) (hdb : (x == ("__debug__" : Str)) = false := by decide)
    (he : starEach (e :: es) X.env = (false, eval e X.env) :: starEach es X.env := by rfl) (hpl : (backTo pos (starEach es X.env)).any (·.1) = false := by rfl) : PE X (.Call (.Name x p) (e :: es) [] pos) (tE X.K O (mOp ks ma op) k) :=
  PEi (pe_callTy hc hg hm hv ha hn hdb he hpl) fun _ _ _ h => tA_op hs h
end
section
variable {K : PySem.W.Frag}
def dLen : List D → Option D
  | [.list ds] => some (.int ds.length)
  | [.tuple ds] => some (.int ds.length)
  | [.str z] => if z.length ≤ 100000 then some (.int z.length) else none
  | _ => none
theorem s_len : LSem K (fun xs H Q => ∃ x n, xs = [x] ∧ LenV K x H n ∧ Q (.int n) H) dLen .fz := by
  intro F H ds vs d Q s hv ho q
  unfold dLen at ho
  split at ho
  · rename_i es
    cases ho
    obtain ⟨v, rfl, a, xs, rfl, h1, h2⟩ := hv.one
    exact ⟨_, es.length, rfl, .inl ⟨xs, h1, by rw [h2.length]⟩, q.now s rfl⟩
  · rename_i es
    cases ho
    obtain ⟨v, rfl, a, xs, rfl, h1, h2⟩ := hv.one
    exact ⟨_, es.length, rfl, .inr ⟨xs, same_sqt s h1, by rw [h2.length]⟩, q.now s rfl⟩
  · rename_i z
    split at ho
    · rename_i hz
      cases ho
      obtain ⟨v, rfl, h⟩ := hv.one
      have h : v = .str z := h
      subst h
      exact ⟨_, z.length, rfl, ⟨Nat.le_trans hz (by decide), rfl⟩, q.now s rfl⟩
    · cases ho
  · cases ho
def dList : List D → Option D
  | [.list ds] => some (.list ds)
  | [.tuple ds] => some (.list ds)
  | _ => none
theorem s_list : LSem K (fun xs H Q => ∃ p ys, xs = [.ref p] ∧ (SqL K H p ys ∨ SqT K H p ys) ∧ ∀ l, H l = none → Q (.ref l) (upd H l (.lst ys))) dList .ow := by
  intro F H ds vs d Q s hv ho q
  unfold dList at ho
  split at ho
  · rename_i es
    cases ho
    obtain ⟨v, rfl, a, xs, rfl, h1, h2⟩ := hv.one
    exact ⟨a, xs, rfl, .inl h1, q.lst s h2⟩
  · rename_i es
    cases ho
    obtain ⟨v, rfl, a, xs, rfl, h1, h2⟩ := hv.one
    exact ⟨a, xs, rfl, .inr (same_sqt s h1), q.lst s h2⟩
  · cases ho
def dTuple : List D → Option D
  | [.list ds] => some (.tuple ds)
  | [.tuple ds] => some (.tuple ds)
  | _ => none
theorem s_tuple : LSem K (fun xs H Q => ∃ p ys, xs = [.ref p] ∧ ((SqL K H p ys ∧ ∀ l, H l = none → Q (.ref l) (upd H l (.tup ys))) ∨ (SqT K H p ys ∧ Q (.ref p) H))) dTuple .fz := by
  intro F H ds vs d Q s hv ho q
  unfold dTuple at ho
  split at ho
  · rename_i es
    cases ho
    obtain ⟨v, rfl, a, xs, rfl, h1, h2⟩ := hv.one
    exact ⟨a, xs, rfl, .inl ⟨h1, q.tup s h2⟩⟩
  · rename_i es
    cases ho
    obtain ⟨v, rfl, a, xs, rfl, h1, h2⟩ := hv.one
    exact ⟨a, xs, rfl, .inr ⟨same_sqt s h1, q.now s ⟨a, xs, rfl, h1, h2⟩⟩⟩
  · cases ho
def bools : List D → Option (List Bool)
  | [] => some []
  | .bool b :: ds => (bools ds).map (b :: ·)
  | _ :: _ => none
theorem bools_v {F : Hp} : ∀ {ds : List D} {bs : List Bool} {xs : List V}, bools ds = some bs → RpA K F ds xs → xs = bs.map V.bl
  | [], bs, xs, h, r => by
    cases h
    exact r
  | .bool b :: ds, bs, xs, h, r => by
    obtain ⟨cs, h1, rfl⟩ := map_some h
    obtain ⟨v, vs, rfl, r1, r2⟩ := r
    have r1 : v = .bl b := r1
    rw [r1, bools_v h1 r2]
    rfl
  | .none :: _, _, _, h, _ => by cases h
  | .int _ :: _, _, _, h, _ => by cases h
  | .str _ :: _, _, _, h, _ => by cases h
  | .list _ :: _, _, _, h, _ => by cases h
  | .tuple _ :: _, _, _, h, _ => by cases h
  | .dict _ :: _, _, _, h, _ => by cases h
def dAll : List D → Option D
  | [.list ds] => (bools ds).map fun bs => .bool (bs.all id)
  | _ => none
theorem s_all : LSem K (rAll K) dAll .fz := by
  intro F H ds vs d Q s hv ho q
  unfold dAll at ho
  split at ho
  · rename_i es
    obtain ⟨bs, h1, rfl⟩ := map_some ho
    obtain ⟨v, rfl, a, xs, rfl, h2, h3⟩ := hv.one
    have e := bools_v h1 h3
    subst e
    exact ⟨a, bs, rfl, h2, q.now s rfl⟩
  · cases ho
def tyD : D → String
  | .none => "NoneType"
  | .bool _ => "bool"
  | .int _ => "int"
  | .str _ => "str"
  | .list _ => "list"
  | .tuple _ => "tuple"
  | .dict _ => "dict"
def obD : D → Bool
  | .dict kvs => noOb kvs
  | _ => true
def dIsR (n : String) (d : D) : Option D := match n with
    | "int" => some (.bool (match d with | .int _ => true | .bool _ => true | _ => false))
    | "bool" => some (.bool (match d with | .bool _ => true | _ => false))
    | "str" => some (.bool (match d with | .str _ => true | _ => false))
    | "list" => some (.bool (match d with | .list _ => true | _ => false))
    | "tuple" => some (.bool (match d with | .tuple _ => true | _ => false))
    | "dict" => some (.bool (match d with | .dict _ => true | _ => false))
    | _ => none
def dIs (n : String) : List D → Option D
  | [d] => (match obD d with
    | true => dIsR n d
    | false => none)
  | _ => none
theorem sql_ty {H : Hp} {a : Addr} {xs : List V} (h : SqL K H a xs) : TyX K H (.ref a) (.type "list") := by
  rcases h with (h | ⟨o, h⟩) | ⟨o, _, _, h1, h2, _⟩
  · exact .base (.lst h)
  · exact .base (.frz h)
  · exact .kList h1 h2
theorem sqt_ty {H : Hp} {a : Addr} {xs : List V} (h : SqT K H a xs) : TyX K H (.ref a) (.type "tuple") := by
  rcases h with (h | ⟨o, h⟩) | ⟨o, _, _, h1, h2, _⟩
  · exact .base (.tup h)
  · exact .fTuple h
  · exact .kTuple h1 h2
theorem dk_ty {H : Hp} {a : Addr} {kvs : List (Key × V)} (h : Rd H a (.dK kvs)) : TyX K H (.ref a) (.type "dict") := by
  rcases h with h | ⟨o, h⟩
  · exact .base (.dK h)
  · exact .fDict h
theorem vw_ty {F H : Hp} (s : Same F H) : ∀ {d : D} {v : V}, obD d = true → Vw K F H d v → TyX K H v (.type (tyD d))
  | .none, v, _, h => by
    have h : v = .non := h
    rw [h]
    exact .base .non
  | .bool b, v, _, h => by
    have h : v = .bl b := h
    rw [h]
    exact .base (.bl b)
  | .int i, v, _, h => by
    have h : v = .int i := h
    rw [h]
    exact .base (.int i)
  | .str z, v, _, h => by
    have h : v = .str z := h
    rw [h]
    exact .base (.str z)
  | .list ds, v, _, ⟨a, xs, e, h1, _⟩ => by
    rw [e]
    exact sql_ty h1
  | .tuple ds, v, _, ⟨a, xs, e, h1, _⟩ => by
    rw [e]
    exact sqt_ty (same_sqt s h1)
  | .dict ds, v, _, .inl ⟨a, xs, e, h1, _⟩ => by
    rw [e]
    exact dk_ty h1
  | .dict ds, v, h0, .inr h => by
    have h1 : noOb ds = true := h0
    rw [h.ob] at h1
    cases h1
theorem is_kit : ∀ {n : String} {d : D} {z : D}, dIs n [d] = some z → obD d = true ∧ ∃ b, z = .bool b ∧ PySem.W.kitOne K (.type (tyD d)) (.type n) = some b := fun {n d z} h => by
  have h' : (match obD d with
    | true => dIsR n d
    | false => none) = some z := h
  cases ho : obD d with
  | false =>
    rw [ho] at h'
    cases h'
  | true =>
  rw [ho] at h'
  refine ⟨rfl, ?_⟩
  have h : dIsR n d = some z := h'
  clear h' ho
  unfold dIsR at h
  split at h <;> first
    | (cases h; done)
    | (cases h; refine ⟨_, rfl, ?_⟩; cases d <;> (dsimp only [tyD]; exact kit_ty (by decide +kernel)))
end
section
variable {X : Cx} {O L : List Kd} {e a b : Expr} {es : List Expr} {ma : MA} {m mb : M} {ks : List Ak} {ka kb k : Ak} {op : List D → Option D} {x : Str} {p q pos apos : Pos} {T id : String} {i : Nat}
theorem e_isi {n : String} {nx : Str} (hm : X.mg "isinstance" = none) (hn : X.mg nx = none) (hv : bootBuiltins nx = some (.type n)) (ha : PE X e (tE X.K O m ka)) (hg : Gl X "isinstance" := by rfl) (hgn : Gl X nx := by rfl) (h1 : nx ≠ "__name__" := by decide) (h2 : (nx == ("__debug__" : Str)) = false := by decide)
    (he : starEach (e :: [.Name nx q]) X.env = (false, eval e X.env) :: starEach [.Name nx q] X.env := by rfl) (hpl : (backTo pos (starEach [.Name nx q] X.env)).any (·.1) = false := by rfl) (hs2 : starEach [.Name nx q] X.env = (false, eval (.Name nx q) X.env) :: starEach [] X.env := by rfl) :
    PE X (.Call (.Name "isinstance" p) [e, .Name nx q] [] pos) (tE X.K O (m1 ka m (dIs n)) .fz) := by
  refine PEi (pe_callB call_isi hg hm (by decide +kernel) (pa_cons ha (pa_cons (pe_bltn (v := .ty n) hgn hn hv rfl h1 h2) pa_nil hs2) he) (by decide) (by decide) he hpl) fun σ H Q h => ?_
  have hs : LSem X.K (fun vs H Q => ∃ v, vs = [v] ∧ rIsi X.K [v, .ty n] H Q) (dIs n) .fz := by
    intro F H ds vs d Q s hv ho q
    cases ds with
    | nil => cases ho
    | cons d0 r =>
      cases r with
      | cons _ _ => cases ho
      | nil =>
        obtain ⟨v, rfl, h1⟩ := hv.one
        obtain ⟨h0, b, rfl, kb⟩ := is_kit (K := X.K) ho
        exact ⟨v, rfl, v, .ty n, _, _, b, rfl, .ty n, vw_ty s h0 h1, kb, q.now s rfl⟩
  have z := tA_cons (tA_op hs h)
  obtain ⟨F, ρ, d, ρ', ok, hmm, z⟩ := z
  refine ⟨F, ρ, d, ρ', ok, hmm, fun v F1 H1 ok1 st1 r1 => ?_⟩
  obtain ⟨F4, ρ4, ds, ρ4', ok4, hm4, q4⟩ := z v F1 H1 ok1 st1 r1
  cases hm4
  obtain ⟨v', e1, z1⟩ := q4 [] F4 H1 ok4 (.refl _ _) ⟨rfl, rfl⟩
  cases e1
  exact z1
def dIx : List D → Option D
  | [.list ds, .int i] => atI ds i
  | [.tuple ds, .int i] => atI ds i
  | [.str z, .int i] => if z.length ≤ 100000 then (atI z.cps.toList i).map fun c => .str ⟨#[c]⟩ else none
  | _ => none
theorem atI_v {K : PySem.W.Frag} {F : Hp} {ds : List D} {xs : List V} {i : Int} {d : D} (r : RpA K F ds xs) (h : atI ds i = some d) : ∃ v, atI xs i = some v ∧ Rp K F d v := by
  unfold atI at h ⊢
  rw [r.length]
  obtain ⟨j, h1, h2⟩ := bind_some h
  obtain ⟨v, h3, h4⟩ := r.get h2
  exact ⟨v, by rw [h1]; exact h3, h4⟩
theorem s_ix {K : PySem.W.Frag} : LSem K (rL2 (rIx K)) dIx .fz := by
  intro F H ds vs d Q s hv ho q
  unfold dIx at ho
  split at ho
  · rename_i es i
    obtain ⟨v, u, rfl, ⟨a, xs, rfl, h1, h2⟩, h3⟩ := hv.two
    have h3 : u = .int i := h3
    subst h3
    obtain ⟨w, h4, h5⟩ := atI_v h2 ho
    exact ⟨_, _, rfl, .inl ⟨a, xs, i, w, rfl, rfl, h1, h4, q.now s h5⟩⟩
  · rename_i es i
    obtain ⟨v, u, rfl, ⟨a, xs, rfl, h1, h2⟩, h3⟩ := hv.two
    have h3 : u = .int i := h3
    subst h3
    obtain ⟨w, h4, h5⟩ := atI_v h2 ho
    exact ⟨_, _, rfl, .inr (.inl ⟨a, xs, i, w, rfl, rfl, same_sqt s h1, h4, q.now s h5⟩)⟩
  · rename_i z i
    split at ho
    · rename_i hz
      obtain ⟨v, u, rfl, h1, h3⟩ := hv.two
      have h1 : v = .str z := h1
      have h3 : u = .int i := h3
      subst h1 h3
      obtain ⟨c, h4, rfl⟩ := map_some ho
      exact ⟨_, _, rfl, .inr (.inr ⟨z, i, c, rfl, rfl, Nat.le_trans hz (by decide), h4, q.now s rfl⟩)⟩
    · cases ho
  · cases ho
def mSetIx (i : Nat) (mi mv : M) : MS := fun ρ => (mv ρ).bind fun p => (mBr i p.2).bind fun _ => (mi p.2).bind fun q => match q.1, q.2[i]? with
  | .int j, some (some (.list ds)) => (ixN ds.length j).map fun n => (.nx, q.2.set i (some (.list (ds.set n p.1))))
  | _, _ => none
def cutG {α : Type} (xs : List α) (lo hi : Option Int) : List α := (xs.drop (HT.sIx xs.length 0 lo)).take (HT.sIx xs.length xs.length hi - HT.sIx xs.length 0 lo)
abbrev MO := En → Option (Option Int × En)
def mNo : MO := fun ρ => some (none, ρ)
def mPt (m : M) : MO := fun ρ => (m ρ).bind fun p => match p.1 with
  | .int i => some (some i, p.2)
  | _ => none
def mSl (ka : Ak) (m : M) (lo hi : MO) (op : D → Option Int → Option Int → Option D) : M := fun ρ => (m ρ).bind fun p => (lo p.2).bind fun q => (hi q.2).bind fun z => (fill [ka] [p.1] z.2).bind fun ds => match ds with
  | [d] => (op d q.1 z.1).map fun y => (y, z.2)
  | _ => none
def dSlL (d : D) (lo hi : Option Int) : Option D := match d with
  | .list ds => some (.list (cutG ds lo hi))
  | _ => none
def dSlT (d : D) (lo hi : Option Int) : Option D := match d with
  | .tuple ds => some (.tuple (cutG ds lo hi))
  | _ => none
def dRev : List D → Option D
  | [.list ds] => some (.list ds.reverse)
  | _ => none
def dCat : List D → Option D
  | [.list xs, .list ys] => if xs.length + ys.length ≤ 1000000 then some (.list (xs ++ ys)) else none
  | _ => none
def rCatS (K : PySem.W.Frag) : R2 := fun x y H Q => ∃ l b xs zs, x = .ref l ∧ y = .ref b ∧ SqL K H l xs ∧ SqL K H b zs ∧ xs.length + zs.length ≤ sizeLine ∧ ∀ p, H p = none → Q (.ref p) (upd H p (.lst (xs ++ zs)))
theorem op_catS : OpR X (binaryOp .Add) (rCatS X.K) := by
  intro pins s σ H x y v u Q I rx ry h
  obtain ⟨l, b, xs, zs, rfl, rfl, hl, hb, hz, q⟩ := h
  cases rx
  cases ry
  obtain ⟨its, r1, ⟨⟨cls1, dd1, dt1, sl1⟩, n1, o1, c1, _, t1⟩, _⟩ := I.list hl
  obtain ⟨jts, r2, ⟨⟨cls2, dd2, dt2, sl2⟩, n2, o2, c2, _, t2⟩, _⟩ := I.list hb
  simp only at c1 t1 c2 t2
  subst c1 t1 c2 t2
  have l1 := r1.length
  have l2 := r2.length
  refine concat_meets ⟨_, o1, rfl⟩ ⟨_, o2, rfl⟩ noFill_list_add seq_list_add PySem.F.slot_list_add PySem.F.entry_list_add (PySem.F.args_list_add_2 _ _) (list_addW l b its.toArray jts.toArray n1 n2 dd1 dd2 sl1 sl2 (by rw [List.size_toArray, List.size_toArray]; omega)) ⟨o1, o2, ?_⟩
  rw [show its.toArray ++ jts.toArray = (its ++ jts).toArray by simp]
  exact ⟨.ref _, _, I.lnew (t' := s.toks) (r1.append r2) (by rw [List.length_append]; omega), rfl, q _ I.fresh⟩
theorem s_cat {K : PySem.W.Frag} : LSem K (rL2 (rCatS K)) dCat .ow := by
  intro F H ds vs d Q s hv ho q
  unfold dCat at ho
  split at ho
  · rename_i es fs
    split at ho
    · rename_i hz
      cases ho
      obtain ⟨v, u, rfl, ⟨a, xs, rfl, h1, h2⟩, b, ys, rfl, h3, h4⟩ := hv.two
      exact ⟨_, _, rfl, a, b, xs, ys, rfl, rfl, h1, h3, by rw [h2.length, h4.length]; exact Nat.le_trans hz (by decide), q.lst s (h2.append h4)⟩
    · cases ho
  · cases ho
def MSem (K : PySem.W.Frag) (r : V → List V → Hp → VK → Prop) (op : D → List D → Option (D × D)) : Prop := ∀ (F H : Hp) (p : Addr) (d0 : D) (vs : List V) (ds : List D) (d d0' : D) (Q : VK), Same F H → F p = none → OwnO K F H p d0 → RpA K F ds vs → op d0 ds = some (d, d0') →
  (∀ v o, OwnC K F o d0' → Rp K F d v → Q v (upd H p o)) → r (.ref p) vs H Q
def isTy (T : String) (d : D) : Bool := match d with
  | .list _ => decide (T = "list")
  | .dict _ => decide (T = "dict")
  | .str _ => decide (T = "str")
  | _ => false
def mMut (i : Nat) (T : String) (ma : MA) (op : D → List D → Option (D × D)) : M := fun ρ => match ρ[i]? with
  | some (some d1) => if isTy T d1 = true then (ma ρ).bind fun q => (match q.2[i]? with
    | some (some d0) => (op d0 q.1).map fun z => (z.1, q.2.set i (some z.2))
    | _ => none) else none
  | _ => none
theorem own_ty {K : PySem.W.Frag} {F H : Hp} {p : Addr} {T : String} : ∀ {d : D}, isTy T d = true → OwnO K F H p d → tyV K T (.ref p) H
  | .list ds, h, ⟨o, h1, xs, h2, h3⟩ => .inl ⟨of_decide_eq_true h, xs, .inl (.inl (by rw [h1, h2]))⟩
  | .dict ds, h, ⟨o, h1, xs, h2, h3⟩ => .inr (.inr (.inl ⟨of_decide_eq_true h, .inl ⟨xs, by rw [h1, h2]⟩⟩))
  | .none, h, _ => by cases h
  | .bool _, h, _ => by cases h
  | .int _, h, _ => by cases h
  | .str _, _, ⟨_, _, h⟩ => h.elim
  | .tuple _, h, _ => by cases h
theorem mut_core {K : PySem.W.Frag} {r : V → List V → Hp → VK → Prop} {mop : D → List D → Option (D × D)} {F F1 H H1 : Hp} {σ : L2.St} {ρ ρ1 : En} {d0 d d0' : D} {ds : List D} {vs : List V} {xv : V} {Q : VK} (hO : mutK O[i]? = true) (hs : MSem K r mop) (st1 : Stp O ⟨F, H, σ, ρ⟩ ⟨F1, H1, σ, ρ1⟩) (ok1 : Ok K O ⟨F1, H1, σ, ρ1⟩)
    (hx : sv O H1 σ i = some (some xv)) (h0 : ρ1[i]? = some (some d0)) (ra : RpA K F1 ds vs) (ho : mop d0 ds = some (d, d0'))
    (q : ∀ v F' H', Ok K O ⟨F', H', σ, ρ1.set i (some d0')⟩ → Stp O ⟨F, H, σ, ρ⟩ ⟨F', H', σ, ρ1.set i (some d0')⟩ → Rs K O ⟨F, H, σ, ρ⟩ ⟨F', H', σ, ρ1.set i (some d0')⟩ .fz d v → Q v H') : r xv vs H1 Q := by
  have hk : ∃ k : Kd, O[i]? = some k ∧ k.own = true ∧ k.lock = false := by
    cases e : O[i]? with
    | none =>
      rw [e] at hO
      cases hO
    | some k =>
      rw [e] at hO
      cases k <;> first | exact ⟨_, rfl, rfl, rfl⟩ | cases hO
  obtain ⟨k, k1, k2, k3⟩ := hk
  obtain ⟨p, y1, y2, y3⟩ := ok1.ow i k d0 k1 k2 h0
  have y1 : sv O H1 σ i = some (some (.ref _)) := y1
  rw [hx] at y1
  cases y1
  refine hs F1 H1 p d0 vs ds d d0' Q ok1.sub y2 y3 ra ho fun v o hc rv => ?_
  obtain ⟨z1, z2⟩ := ok1.chg (o := o) (d := d0') k1 k2 k3 h0 hx y2 hc
  exact q v F1 _ z1 (st1.trans z2) rv
theorem mut_pre {K : PySem.W.Frag} {T : String} {mop : D → List D → Option (D × D)} {ρ ρ' : En} {d : D} (h : mMut i T ma mop ρ = some (d, ρ')) :
    ∃ d1 ds ρ1 d0 z, ρ[i]? = some (some d1) ∧ isTy T d1 = true ∧ ma ρ = some (ds, ρ1) ∧ ρ1[i]? = some (some d0) ∧ mop d0 ds = some (d, z) ∧ ρ' = ρ1.set i (some z) := by
  obtain ⟨d1, e1, e2⟩ := slot_some h
  split at e2
  · rename_i ht
    obtain ⟨⟨ds, ρ1⟩, e3, e4⟩ := bind_some e2
    obtain ⟨d0, e5, e6⟩ := slot_some e4
    obtain ⟨⟨d2, z⟩, e7, e8⟩ := map_some e6
    cases e8
    exact ⟨d1, ds, ρ1, d0, z, e1, ht, e3, e5, e7, rfl⟩
  · cases e2
theorem e_mut (i : Nat) {name : Str} {rr : V → List V → Hp → VK → Prop} {mop : D → List D → Option (D × D)} (pa : PlainAttrs T) (slot : Slot T name id) (hty : typeOf (.builtin id) = pure (.type "method_descriptor")) (hmr : MtR X id rr) (hs : MSem X.K rr mop) (ho : PE X a (tE X.K O (mBr i) (.br i))) (ha : PA X (e :: es) (tA X.K O ma ks))
    (hO : mutK O[i]? = true := by rfl) (hks : allFz ks = true := by rfl) (hbase : attributeBase a name X.env (eval a X.env) = eval a X.env := by rfl)
    (hfew : ((backTo pos (starEach (e :: es) X.env)).all (fun x => !x.1) && (backToKw pos (keywordEach [] X.env)).all (fun x => x.1.isSome)
      && decide ((e :: es).length + ([] : List Keyword).length + (if ([] : List Keyword).isEmpty then 0 else 1) < 30)) = true := by rfl)
    (hline : (apos.endLine == pos.line) = true := by rfl) (hst : starEach (e :: es) X.env = (false, eval e X.env) :: starEach es X.env := by rfl) (hplain : (backTo pos (starEach es X.env)).any (·.1) = false := by rfl) :
    PE X (.Call (.Attribute a name apos) (e :: es) [] pos) (tE X.K O (mMut i T ma mop) .fz) := by
  refine PEi (pe_bm pa slot hty hmr ho ha hbase hfew hline hst hplain) fun σ H Q ⟨F, ρ, d, ρ', ok, hm, q⟩ => ?_
  obtain ⟨d1, ds, ρ1, d0, z, e1, ht, e3, e5, e7, rfl⟩ := mut_pre (K := X.K) hm
  refine ⟨F, ρ, .none, ρ, ok, by unfold mBr; rw [e1], fun v F1 H1 ok1 st1 r1 => ?_⟩
  obtain ⟨r1, k0, k1, k2⟩ := r1
  obtain ⟨p, y1, y2, y3⟩ := ok1.ow i k0 _ k1 k2 e1
  have y1 : sv O H1 σ i = some (some (.ref p)) := y1
  have r1 : sv O H1 σ i = some (some v) := r1
  rw [y1] at r1
  cases r1
  refine ⟨own_ty ht y3, F1, ρ, ds, ρ1, ok1, e3, fun vs F2 H2 ok2 st2 r2 => ?_⟩
  obtain ⟨ra, _⟩ := r2.fz hks
  exact mut_core hO hs (st1.trans st2) ok2 ((sv_same st2.ost).trans y1) e5 ra e7 q
def dAppend (d0 : D) (ds : List D) : Option (D × D) := match d0, ds with
  | .list xs, [d] => if xs.length < 1000000 then some (.none, .list (xs ++ [d])) else none
  | _, _ => none
theorem ms_append {K : PySem.W.Frag} : MSem K rAppend dAppend := by
  intro F H p d0 vs ds d d0' Q s hp ow ra ho q
  unfold dAppend at ho
  split at ho
  · rename_i xs y
    split at ho
    · rename_i hz
      cases ho
      obtain ⟨o, h1, us, rfl, h3⟩ := ow
      obtain ⟨v, rfl, rv⟩ := ra.one
      exact ⟨p, us, v, rfl, rfl, h1, by rw [h3.length]; exact Nat.lt_of_lt_of_le hz (by decide), q .non _ ⟨_, rfl, h3.append (.cons rv .nil)⟩ rfl⟩
    · cases ho
  · cases ho
def dInsert (d0 : D) (ds : List D) : Option (D × D) := match d0, ds with
  | .list xs, [.int i, d] => if xs.length < 1000000 ∧ 0 ≤ i ∧ i < 2 ^ 63 then some (.none, .list (xs.take i.toNat ++ [d] ++ xs.drop i.toNat)) else none
  | _, _ => none
theorem ms_insert {K : PySem.W.Frag} : MSem K (fun x vs H Q => ∃ (l : Addr) (xs : List V) (i : Int) (y : V), x = .ref l ∧ vs = [.int i, y] ∧ H l = some (.lst xs) ∧ xs.length < sizeLine ∧ 0 ≤ i ∧ i < 2 ^ 63 ∧ Q .non (upd H l (.lst (xs.take i.toNat ++ [y] ++ xs.drop i.toNat)))) dInsert := by
  intro F H p d0 vs ds d d0' Q s hp ow ra ho q
  unfold dInsert at ho
  split at ho
  · rename_i xs i y
    split at ho
    · rename_i hz
      cases ho
      obtain ⟨o, h1, us, rfl, h3⟩ := ow
      obtain ⟨u, v, rfl, ru, rv⟩ := ra.two
      have ru : u = .int i := ru
      subst ru
      exact ⟨p, us, i, v, rfl, rfl, h1, by rw [h3.length]; exact Nat.lt_of_lt_of_le hz.1 (by decide), hz.2.1, hz.2.2, q .non _ ⟨_, rfl, ((h3.take i.toNat).append (.cons rv .nil)).append (h3.drop i.toNat)⟩ rfl⟩
    · cases ho
  · cases ho
end
def mFz (i : Nat) (m : MS) : MS := fun ρ => (m ρ).map fun p => (p.1, p.2.set i none)
section
variable {X : Cx} {O L : List Kd} {e a b c : Expr} {es : List Expr} {ma : MA} {m mb mc : M} {ks : List Ak} {ka kb kc k : Ak} {x : Str} {p q pos apos : Pos} {i : Nat}
theorem nl_set (n1 : hasO O = false) {k : Kd} (n2 : hasO (O.set i k) = false) : nl (O.set i k) = nl O := by
  rw [nl_no n1, nl_no n2, List.length_set]
theorem sv_set_no (n1 : hasO O = false) {k : Kd} (n2 : hasO (O.set i k) = false) {H : Hp} {σ : L2.St} {j : Nat} : sv (O.set i k) H σ j = sv O H σ j := by
  unfold sv
  rw [nl_set n1 n2, no_ats n1, no_ats n2]
  rfl
theorem ss_frz (i : Nat) {rest : List Stmt} {mm : MS} {r : Ak} (h : PSs X rest (tS X.K (O.set i .fz) mm r)) (hO : O[i]? = some Kd.ow := by rfl) (hr : ∀ j, r ≠ .br j := by exact fun _ z => by cases z) (n1 : hasO O = false := by rfl) (n2 : hasO (O.set i .fz) = false := by rfl) : PSs X rest (tS X.K O (mFz i mm) r) := by
  refine PSsi h fun Dn σ H ⟨F, ρ, fl, ρ', ok, hm, q⟩ => ?_
  obtain ⟨⟨f, ρ1⟩, e1, e2⟩ := map_some hm
  cases e2
  have hil : i < O.length := (List.getElem?_eq_some_iff.mp hO).1
  have getne : ∀ {j : Nat}, j ≠ i → (O.set i Kd.fz)[j]? = O[j]? := fun {j} h => List.getElem?_set_ne fun z => h z.symm
  have geti : (O.set i Kd.fz)[i]? = some Kd.fz := List.getElem?_set_self hil
  -- owners but the slot's own
  have sub : ∀ {F' H' : Hp} {σ' : L2.St} {ρ'' : En} {j : Nat} {pp : Addr}, OwnAt (O.set i .fz) ⟨F', H', σ', ρ''⟩ j pp → j ≠ i ∧ OwnAt O ⟨F', H', σ', ρ''⟩ j pp := fun {F' H' σ' ρ'' j pp} ⟨k, d, h1, h2, h3, h4⟩ => by
    have hj : j ≠ i := fun z => by
      subst z
      rw [geti] at h1
      cases h1
      cases h2
    exact ⟨hj, k, d, by rw [← getne hj]; exact h1, h2, h3, (sv_set_no n1 n2).symm.trans h4⟩
  have sup : ∀ {F' H' : Hp} {σ' : L2.St} {ρ'' : En} {j : Nat} {pp : Addr}, OwnAt O ⟨F', H', σ', ρ''.set i none⟩ j pp → OwnAt (O.set i .fz) ⟨F', H', σ', ρ''⟩ j pp := fun {F' H' σ' ρ'' j pp} h => by
    obtain ⟨⟨k, d, h1, h2, h3, h4⟩, hj⟩ := own_unset (F := F') (H := H') pp j h
    exact ⟨k, d, by rw [getne hj]; exact h1, h2, h3, (sv_set_no n1 n2).trans h4⟩
  -- the frozen heap
  have start : ∃ F1, Same F F1 ∧ Same F1 H ∧ (∀ bb, ¬ Fp O ⟨F, H, σ, ρ⟩ bb → F bb = none → F1 bb = none) ∧ (∀ j pp, j ≠ i → OwnAt O ⟨F, H, σ, ρ⟩ j pp → F1 pp = none) ∧ ∀ d, ρ[i]? = some (some d) → ∃ v, sv O H σ i = some (some v) ∧ Rp X.K F1 d v := by
    cases hd : ρ[i]? with
    | none => exact ⟨F, .refl _, ok.sub, fun _ _ z => z, fun j pp _ o => (ok.ownF ⟨j, o⟩).1, fun d z => by cases z⟩
    | some od =>
      cases od with
      | none => exact ⟨F, .refl _, ok.sub, fun _ _ z => z, fun j pp _ o => (ok.ownF ⟨j, o⟩).1, fun d z => by cases z⟩
      | some d =>
        obtain ⟨pp, g1, g2, o, g3, g4⟩ := ok.ow i _ d hO rfl hd
        have e' : Same F (upd F pp o) := fun bb u hb => by
          rw [upd_ne (ne_of_none hb g2)]
          exact hb
        have at_i : OwnAt O ⟨F, H, σ, ρ⟩ i pp := ⟨_, d, hO, rfl, hd, g1⟩
        refine ⟨upd F pp o, e', fun bb u hb => ?_, fun bb z f => ?_, fun j qq hj oo => ?_, fun d' z => ?_⟩
        · by_cases ee : bb = pp
          · subst ee
            rw [upd_same] at hb
            cases hb
            exact g3
          · rw [upd_ne ee] at hb
            exact ok.sub bb u hb
        · rw [upd_ne fun y => z (by rw [y]; exact ⟨i, at_i⟩)]
          exact f
        · rw [upd_ne fun y => hj (ok.ap j i pp (by rw [← y]; exact oo) at_i)]
          exact (ok.ownF ⟨j, oo⟩).1
        · cases z
          exact ⟨.ref pp, g1, (g4.mono e').rp upd_same⟩
  obtain ⟨F1, f1, f2, f3, f4, f5⟩ := start
  have ok1 : Ok X.K (O.set i .fz) ⟨F1, H, σ, ρ⟩ := by
    refine ⟨f2, by rw [nl_set n1 n2]; exact ok.ls, by rw [List.length_set]; exact ok.lr, fun j d h1 h2 => ?_, fun j k d h1 h2 h3 => ?_, fun j j' pp h1 h2 => ok.ap j j' pp (sub h1).2 (sub h2).2, fun e => (by rw [n2] at e; cases e), fun P hP => ⟨(ok.tb P hP).1, f3 P (ok.tbF hP) (ok.tb P hP).2⟩⟩
    · by_cases hj : j = i
      · subst hj
        obtain ⟨v, g1, g2⟩ := f5 d h2
        exact ⟨v, (sv_set_no n1 n2).trans g1, g2⟩
      · rw [getne hj] at h1
        obtain ⟨v, g1, g2⟩ := ok.fz j d h1 h2
        exact ⟨v, (sv_set_no n1 n2).trans g1, g2.mono f1⟩
    · by_cases hj : j = i
      · subst hj
        rw [geti] at h1
        cases h1
        cases h2
      · rw [getne hj] at h1
        obtain ⟨pp, g1, g2, g3⟩ := ok.ow j k d h1 h2 h3
        exact ⟨pp, (sv_set_no n1 n2).trans g1, f4 j pp hj ⟨k, d, h1, h2, h3, g1⟩, g3.mono f1 fun _ z => z⟩
  have fin : ∀ {σ' : L2.St} {F' H' : Hp}, Ok X.K (O.set i .fz) ⟨F', H', σ', ρ1⟩ → StpS (O.set i .fz) ⟨F1, H, σ, ρ⟩ ⟨F', H', σ', ρ1⟩ → Ok X.K O ⟨F', H', σ', ρ1.set i none⟩ ∧ StpS O ⟨F, H, σ, ρ⟩ ⟨F', H', σ', ρ1.set i none⟩ := fun {σ' F' H'} ok' st => by
    have fpn : ∀ {bb : Addr}, ¬ Fp O ⟨F, H, σ, ρ⟩ bb → ¬ Fp (O.set i .fz) ⟨F1, H, σ, ρ⟩ bb := fun {bb} z ⟨j, h⟩ => z ⟨j, (sub h).2⟩
    refine ⟨⟨ok'.sub, ?_, ?_, fun j d h1 h2 => ?_, fun j k d h1 h2 h3 => ?_, fun j j' pp h1 h2 => ok'.ap j j' pp (sup h1) (sup h2), fun e => (by rw [n1] at e; cases e), ok'.tb⟩,
      ⟨f1.trans st.ex, fun bb o h z _ => st.kp bb o h (fpn z) (fun e => by rw [n2] at e; cases e), fun bb o h z f => st.nw bb o h (fpn z) (f3 bb z f), fun bb ⟨j, h⟩ => ?_, fun j k h1 h2 => ?_, fun j k h1 h2 => ?_, fun j k pp d h1 h2 h3 h4 => ?_, fun e => (by rw [n1] at e; cases e), st.tb⟩⟩
    · have z : σ'.length = _ := ok'.ls
      rw [nl_set n1 n2] at z
      exact z
    · have z : ρ1.length = _ := ok'.lr
      rw [List.length_set] at z
      show (ρ1.set i none).length = _
      rw [List.length_set]
      exact z
    · rcases set_get (show (ρ1.set i none)[j]? = _ from h2) with ⟨_, y⟩ | ⟨y, y2⟩
      · cases y
      · obtain ⟨v, g1, g2⟩ := ok'.fz j d (by rw [getne fun z => y z.symm]; exact h1) y2
        exact ⟨v, (sv_set_no n1 n2).symm.trans g1, g2⟩
    · rcases set_get (show (ρ1.set i none)[j]? = _ from h3) with ⟨_, y⟩ | ⟨y, y2⟩
      · cases y
      · obtain ⟨v, g1, g2⟩ := ok'.ow j k d (by rw [getne fun z => y z.symm]; exact h1) h2 y2
        exact ⟨v, (sv_set_no n1 n2).symm.trans g1, g2⟩
    · rcases st.fp bb ⟨j, sup h⟩ with ⟨j', z⟩ | z
      · exact .inl ⟨j', (sub z).2⟩
      · exact .inr z
    · have hj : j ≠ i := fun z => by
        subst z
        rw [hO] at h1
        cases h1
        cases h2
      exact (sv_set_no n1 n2).symm.trans ((st.pn j k (by rw [getne hj]; exact h1) h2).trans (sv_set_no n1 n2))
    · have hj : j ≠ i := fun z => by
        subst z
        rw [hO] at h1
        cases h1
        cases h2
      show (ρ1.set i none)[j]? = _
      rw [List.getElem?_set_ne fun z => hj z.symm]
      exact st.lk j k (by rw [getne hj]; exact h1) h2
    · have hj : j ≠ i := fun z => by
        subst z
        rw [hO] at h1
        cases h1
        cases h2
      exact st.lo j k pp d (by rw [getne hj]; exact h1) h2 h3 ((sv_set_no n1 n2).trans h4)
  refine ⟨F1, ρ, f, ρ1, ok1, e1, ?_⟩
  cases f with
  | nx => exact fun σ' F' H' ok' st => q σ' F' H' (fin ok' st).1 (fin ok' st).2
  | bk => exact fun σ' F' H' ok' st => q σ' F' H' (fin ok' st).1 (fin ok' st).2
  | ct => exact fun σ' F' H' ok' st => q σ' F' H' (fin ok' st).1 (fin ok' st).2
  | rt d =>
    intro v σ' F' H' ok' st rs
    refine q v σ' F' H' (fin ok' st).1 (fin ok' st).2 ?_
    cases r with
    | fz => exact rs
    | ow =>
      obtain ⟨pp, ee, g1, g2, g3, g4, _⟩ := rs
      refine ⟨pp, ee, g1, g2, fun ⟨j, z⟩ => g3 ⟨j, sup z⟩, ?_, fun e => by rw [n1] at e; cases e⟩
      rcases g4 with ⟨j, z⟩ | z
      · exact .inl ⟨j, (sub z).2⟩
      · exact .inr z
    | br j => exact (hr j rfl).elim
def mChain (f g : Int → Int → Bool) (ma mb mc : M) : M := fun ρ => (ma ρ).bind fun p => (mb p.2).bind fun q => match p.1, q.1 with
  | .int i, .int j => if f i j = true then (mc q.2).bind fun z => (match z.1 with
      | .int n => some (.bool (g j n), z.2)
      | _ => none)
    else some (.bool false, q.2)
  | _, _ => none
theorem chain_out {f g : Int → Int → Bool} {σ : L2.St} {H : Hp} {Q : VK} (h : tE X.K O (mChain f g m mb mc) .fz σ H Q) :
    tChain (rI0 fun i j => .bl (f i j)) (rI0 fun i j => .bl (g i j)) (tE X.K O m .fz) (tE X.K O mb .fz) (tE X.K O mc .fz) σ H Q := by
  obtain ⟨F, ρ, d, ρ', ok, hm, qq⟩ := h
  obtain ⟨⟨d1, ρ1⟩, e1, e2⟩ := bind_some hm
  obtain ⟨⟨d2, ρ2⟩, e3, e4⟩ := bind_some e2
  refine ⟨F, ρ, d1, ρ1, ok, e1, fun v F1 H1 ok1 st1 r1 => ⟨F1, ρ1, d2, ρ2, ok1, e3, fun u F2 H2 ok2 st2 r2 => ?_⟩⟩
  cases d1 <;> cases d2 <;> try (cases e4; done)
  rename_i i j
  dsimp only at e4
  have r1 : v = .int i := r1
  have r2 : u = .int j := r2
  subst r1 r2
  refine ⟨i, j, rfl, rfl, f i j, rfl, ?_⟩
  cases hf : f i j with
  | false =>
    rw [hf, if_neg Bool.false_ne_true] at e4
    cases e4
    rw [if_neg Bool.false_ne_true]
    exact qq _ F2 H2 ok2 (st1.trans st2) rfl
  | true =>
    rw [hf, if_pos rfl] at e4
    rw [if_pos rfl]
    obtain ⟨⟨d3, ρ3⟩, e5, e6⟩ := bind_some e4
    refine ⟨F2, ρ2, d3, ρ3, ok2, e5, fun t F3 H3 ok3 st3 r3 => ?_⟩
    cases d3 <;> try (cases e6; done)
    rename_i n
    cases e6
    have r3 : t = .int n := r3
    subst r3
    exact ⟨j, n, rfl, rfl, qq _ F3 H3 ok3 ((st1.trans st2).trans st3) rfl⟩
theorem e_chain {f g : Int → Int → Bool} {o1 o2 : CmpOp} (h1 : OpR X (compareOp o1) (rI0 fun i j => .bl (f i j))) (h2 : OpR X (compareOp o2) (rI0 fun i j => .bl (g i j))) (ha : PE X a (tE X.K O m .fz)) (hb : PE X b (tE X.K O mb .fz)) (hc : PE X c (tE X.K O mc .fz))
    (hm : lastMarks [o1, o2] [b, c] = false := by with_unfolding_all rfl) : PE X (.Compare a [o1, o2] [b, c] pos) (tE X.K O (mChain f g m mb mc) .fz) := PEi (pe_chain h1 h2 ha hb hc hm) fun _ _ _ h => chain_out h
theorem t_chain {f g : Int → Int → Bool} {o1 o2 : CmpOp} (h1 : OpR X (compareOp o1) (rI0 fun i j => .bl (f i j))) (h2 : OpR X (compareOp o2) (rI0 fun i j => .bl (g i j))) (ha : PE X a (tE X.K O m .fz)) (hb : PE X b (tE X.K O mb .fz)) (hc : PE X c (tE X.K O mc .fz))
    (hm : lastMarks [o1, o2] [b, c] = false := by with_unfolding_all rfl) : PT X (.Compare a [o1, o2] [b, c] pos) (tT X.K O (mTr (mChain f g m mb mc))) := PTi (pt_chain h1 h2 ha hb hc hm) fun _ _ _ h => chain_out (tTr h)
def zipD : List D → List D → List D
  | x :: xs, y :: ys => .tuple [x, y] :: zipD xs ys
  | _, _ => []
def mIt2 (ks : List Ak) (ma : MA) (f : List D → Option (List D)) : MI := fun ρ => (ma ρ).bind fun p => (fill ks p.1 p.2).bind fun ds => (f ds).map fun r => (r, p.2)
end
def lkArgs (L : List Kd) : List Ak → Bool
  | [] => true
  | .br i :: ks => (match L[i]? with
    | some k => k.lock
    | none => false) && lkArgs L ks
  | .fz :: ks => lkArgs L ks
  | .ow :: ks => lkArgs L ks
def Stands (K : PySem.W.Frag) (O L : List Kd) (w w1 : Wd) (d : D) (v : V) : Prop := match d with
  | .list ds => ∃ a xs, v = .ref a ∧ SqL K w1.H a xs ∧ RpA K w1.F ds xs ∧ ∀ Z, Zok O w Z → ∀ w2, Ok K L w2 → Stq L Z w1 w2 → SqL K w2.H a xs
  | .tuple ds => ∃ a xs, v = .ref a ∧ SqT K w1.H a xs ∧ RpA K w1.F ds xs ∧ ∀ Z, Zok O w Z → ∀ w2, Ok K L w2 → Stq L Z w1 w2 → SqT K w2.H a xs
  | _ => True
section
variable {K : PySem.W.Frag} {O L : List Kd} {w w1 : Wd}
theorem stands_fz {d : D} {v : V} (ok : Ok K O w1) (r : Rp K w1.F d v) : Stands K O L w w1 d v := by
  unfold Stands
  split
  · obtain ⟨a, xs, e, h1, h2⟩ := r
    exact ⟨a, xs, e, ok.sub.seq h1, h2, fun Z _ w2 ok2 st2 => ok2.sub.seq (st2.ex.seq h1)⟩
  · obtain ⟨a, xs, e, h1, h2⟩ := r
    exact ⟨a, xs, e, same_sqt ok.sub h1, h2, fun Z _ w2 ok2 st2 => same_sqt ok2.sub (same_sqt st2.ex h1)⟩
  · trivial
theorem stands_ow {d : D} {v : V} (hl : lkOf O L = true) (ok : Ok K O w1) (r : Rs K O w w1 .ow d v) : Stands K O L w w1 d v := by
  obtain ⟨p, rfl, h1, ⟨o, h2, h3⟩, h5, h6, h7⟩ := r
  unfold Stands
  split
  · obtain ⟨xs, rfl, h4⟩ := h3
    refine ⟨p, xs, rfl, .inl (.inl h2), h4, fun Z hz w2 ok2 st2 => .inl (.inl ((Stq.unlock (K := K) hl st2).kp p _ (fun z => ?_) h2 h5 h7).1)⟩
    obtain ⟨⟨u, z1⟩, _, z3, _⟩ := hz p z
    rcases h6 with h6 | h6
    · exact z3 h6
    · rw [h6] at z1
      cases z1
  · exact h3.elim
  · trivial
theorem stands_br {d : D} {v : V} {i : Nat} (hl : lkOf O L = true) (hL : lkArgs L [.br i] = true) (ok : Ok K O w1) (r : Rs K O w w1 (.br i) d v) {e : D} (he : w1.ρ[i]? = some (some e)) : Stands K O L w w1 e v := by
  obtain ⟨r1, q, r2, r3⟩ := r
  obtain ⟨p, e1, e2, o, e3, e4⟩ := ok.ow i q e r2 r3 he
  rw [e1] at r1
  cases r1
  have hk : ∃ k : Kd, L[i]? = some k ∧ k.lock = true := by
    have z : ((match L[i]? with | some k => k.lock | none => false) && true) = true := hL
    cases y : L[i]? with
    | none =>
      rw [y] at z
      cases z
    | some k =>
      rw [y] at z
      exact ⟨k, rfl, (Bool.and_eq_true_iff.mp z).1⟩
  obtain ⟨k, k1, k2⟩ := hk
  unfold Stands
  split
  · obtain ⟨xs, rfl, h4⟩ := e4
    refine ⟨p, xs, rfl, .inl (.inl e3), h4, fun Z _ w2 ok2 st2 => .inl (.inl ?_)⟩
    rw [st2.lo i k p _ k1 k2 he ((lk_sv hl).trans e1)]
    exact e3
  · exact e4.elim
  · trivial
def StandsA (K : PySem.W.Frag) (O L : List Kd) (w w1 : Wd) : List D → List V → Prop
  | [], vs => vs = []
  | d :: ds, vs => ∃ v r, vs = v :: r ∧ Stands K O L w w1 d v ∧ StandsA K O L w w1 ds r
theorem Rss.stands (hl : lkOf O L = true) (ok : Ok K O w1) : ∀ {ks : List Ak} {ds : List D} {vs : List V} {es : List D}, lkArgs L ks = true → Rss K O w w1 ks ds vs → fill ks ds w1.ρ = some es → StandsA K O L w w1 es vs
  | [], _, _, _, _, ⟨h1, h2⟩, hf => by
    subst h1 h2
    cases hf
    rfl
  | .br i :: ks, _, _, _, hk, ⟨d, ds', v, vs', h1, h2, h3, h4⟩, hf => by
    subst h1 h2
    obtain ⟨d', e1, e2⟩ := slot_some hf
    obtain ⟨es', e3, e4⟩ := map_some e2
    subst e4
    obtain ⟨k1, k2⟩ := Bool.and_eq_true_iff.mp (show (_ && lkArgs L ks) = true from hk)
    exact ⟨v, vs', rfl, stands_br hl (Bool.and_eq_true_iff.mpr ⟨k1, rfl⟩) ok h3 e1, h4.stands hl ok k2 e3⟩
  | .fz :: ks, _, _, _, hk, ⟨d, ds', v, vs', h1, h2, h3, h4⟩, hf => by
    subst h1 h2
    obtain ⟨es', e3, e4⟩ := map_some hf
    subst e4
    exact ⟨v, vs', rfl, stands_fz ok h3, Rss.stands hl ok (ks := ks) hk h4 e3⟩
  | .ow :: ks, _, _, _, hk, ⟨d, ds', v, vs', h1, h2, h3, h4⟩, hf => by
    subst h1 h2
    obtain ⟨es', e3, e4⟩ := map_some hf
    subst e4
    exact ⟨v, vs', rfl, stands_ow hl ok h3, Rss.stands hl ok (ks := ks) hk h4 e3⟩
end
section
variable {X : Cx} {O L : List Kd} {tg e e2 : Expr} {ma : MA} {m : M} {ks : List Ak} {p pos tpos : Pos} {elts : List Expr} {kk : Nat}
def mItS (m : M) : MI := fun ρ => (m ρ).bind fun p => match p.1 with
  | .list ds => some (ds, p.2)
  | .tuple ds => some (ds, p.2)
  | _ => none
theorem PI.or {w w' : TI} (h : PI X tg e w) (h' : PI X tg e w') : PI X tg e (fun σ H R => w σ H R ∨ w' σ H R) := ⟨fun pins s σ H R I q => by
  rcases q with q | q
  · exact h.run pins s σ H R I q
  · exact h'.run pins s σ H R I q⟩
theorem i_seq (h : PE X e (tE X.K O m .fz)) : PI X tg e (tI X.K O L (mItS m)) := by
  refine PIi (PI.or (i_list (L := L) h) (i_tup (L := L) h)) fun σ H R ⟨F, ρ, ds, ρ', ok, hm, q⟩ => ?_
  obtain ⟨⟨d, ρ1⟩, e1, e3⟩ := bind_some hm
  cases d <;> cases e3
  · exact .inl ⟨F, ρ, _, ρ1, ok, by unfold mItL; rw [e1]; rfl, q⟩
  · exact .inr ⟨F, ρ, _, ρ1, ok, by unfold mItT; rw [e1]; rfl, q⟩
def enumD (ds : List D) : List D := zipD ((List.range ds.length).map fun (i : Nat) => PyData.int (i : Int)) ds
def dEnum : List D → Option (List D)
  | [.list xs] => some (enumD xs)
  | _ => none
def dRngC (lo c : Int) (n : Nat) : List D := (List.range n).map fun (i : Nat) => PyData.int (lo + (i : Int) * c)
def rngN (i j c : Int) : Nat := (Builtin.Range.rangeSize i j c).toNat
def rngOk (i j c : Int) : Bool := decide (c ≠ 0 ∧ c.natAbs < 1073741824) && (Builtin.Range.small i j c && decide (Builtin.Range.rangeSize i j c = (rngN i j c : Int)))
def mRng3 (ma : MA) : MI := fun ρ => (ma ρ).bind fun p => match p.1 with
  | [.int i, .int j, .int c] => if rngOk i j c = true then some (dRngC i c (rngN i j c), p.2) else none
  | _ => none
end
structure Bt (mg : Str → Option Value) : Prop where
  no : ∀ x, x ∈ bltNames → mg x = none
section
variable {mg : Str → Option Value} (B : Bt mg)
theorem Bt.len (B : Bt mg) : mg "len" = none := B.no _ (by decide +kernel)
theorem Bt.isinstance (B : Bt mg) : mg "isinstance" = none := B.no _ (by decide +kernel)
theorem Bt.int (B : Bt mg) : mg "int" = none := B.no _ (by decide +kernel)
theorem Bt.bool (B : Bt mg) : mg "bool" = none := B.no _ (by decide +kernel)
theorem Bt.str (B : Bt mg) : mg "str" = none := B.no _ (by decide +kernel)
theorem Bt.list (B : Bt mg) : mg "list" = none := B.no _ (by decide +kernel)
theorem Bt.tuple (B : Bt mg) : mg "tuple" = none := B.no _ (by decide +kernel)
theorem Bt.dict (B : Bt mg) : mg "dict" = none := B.no _ (by decide +kernel)
theorem Bt.set (B : Bt mg) : mg "set" = none := B.no _ (by decide +kernel)
theorem Bt.range (B : Bt mg) : mg "range" = none := B.no _ (by decide +kernel)
theorem Bt.zip (B : Bt mg) : mg "zip" = none := B.no _ (by decide +kernel)
theorem Bt.enumerate (B : Bt mg) : mg "enumerate" = none := B.no _ (by decide +kernel)
theorem Bt.all (B : Bt mg) : mg "all" = none := B.no _ (by decide +kernel)
theorem Bt.any (B : Bt mg) : mg "any" = none := B.no _ (by decide +kernel)
theorem Bt.max (B : Bt mg) : mg "max" = none := B.no _ (by decide +kernel)
theorem Bt.min (B : Bt mg) : mg "min" = none := B.no _ (by decide +kernel)
theorem Bt.abs (B : Bt mg) : mg "abs" = none := B.no _ (by decide +kernel)
theorem Bt.sorted (B : Bt mg) : mg "sorted" = none := B.no _ (by decide +kernel)
end
structure FnX (P : Program) (w : World) (K : PySem.W.Frag) (mg : Str → Option Value) (base : Heap) (x : Str) (k : Nat) (ps : List Str) (sp : Sp) : Prop where
  ex : ∃ (f : Addr) (fd : FuncData), FnG P w K mg base CX0 k f fd ps sp ∧ mg x = some (.ref f) ∧ PySem.W.keepIn K (.ref f) = true ∧ Binds K fd ps []
section
variable {X : Cx} {O Oi L : List Kd} {mf : En → Option (D × En)} {r ka kb : Ak} {x : Str} {p pos : Pos} {e a b : Expr} {es : List Expr} {ma : MA} {m mb : M} {ks : List Ak} {j k : Nat} {ps : List Str} {op : List D → Option D}
theorem e_callX (h : FnX X.prog X.w X.K X.mg X.base x k ps (spF X.K Oi mf r)) (hgd : X.A.guards = some []) (hr : Room j X.A) (ha : PA X (e :: es) (tA X.K O ma ks)) (hj : k ≤ j := by decide) (hs : sigOk O ks Oi = true := by rfl) (hln : ks.length + 0 = Oi.length := by rfl) (hnl : noLk Oi = true := by rfl) (n1 : hasO Oi = false := by rfl) (hrr : ∀ i, r ≠ .br i := by exact fun _ z => by cases z)
    (hg : Gl X x := by rfl) (hdb : (x == ("__debug__" : Str)) = false := by decide) (he : starEach (e :: es) X.env = (false, eval e X.env) :: starEach es X.env := by rfl) (hpl : (backTo pos (starEach es X.env)).any (·.1) = false := by rfl) :
    PE X (.Call (.Name x p) (e :: es) [] pos) (tE X.K O (mCall mf ks [] ma) r) := by
  obtain ⟨f, fd, G, h1, h2, h3⟩ := h.ex
  exact e_call G hgd (hr.mono hj) h1 h2 h3 ha hs hln hnl n1 hrr hg hdb he hpl
def dNeg : List D → Option D
  | [.int i] => some (.int (-i))
  | _ => none
theorem s_neg {K : PySem.W.Frag} : LSem K (rL1 (rU fun i => .int (-i))) dNeg .fz := by
  intro F H ds vs d Q s hv ho q
  unfold dNeg at ho
  split at ho
  · cases ho
    obtain ⟨v, rfl, h1⟩ := hv.one
    exact ⟨v, rfl, _, h1, q.now s rfl⟩
  · cases ho
theorem e_all (B : Bt X.mg) (hc : X.calm = true) (ha : PA X [a] (tA X.K O ma ks)) (hg : Gl X "all" := by rfl) (he : starEach [a] X.env = (false, eval a X.env) :: starEach [] X.env := by rfl) (hpl : (backTo pos (starEach [] X.env)).any (·.1) = false := by rfl) : PE X (.Call (.Name "all" p) [a] [] pos) (tE X.K O (mOp ks ma dAll) .fz) :=
  e_blt (cr_all hc) s_all B.all (by decide +kernel) ha hg (by decide) (by decide) he hpl
theorem e_list (B : Bt X.mg) (ha : PA X [a] (tA X.K O ma ks)) (hg : Gl X "list" := by rfl) (he : starEach [a] X.env = (false, eval a X.env) :: starEach [] X.env := by rfl) (hpl : (backTo pos (starEach [] X.env)).any (·.1) = false := by rfl) : PE X (.Call (.Name "list" p) [a] [] pos) (tE X.K O (mOp ks ma dList) .ow) :=
  e_bty call_list_of s_list B.list (by decide +kernel) ha hg (by decide) (by decide) he hpl
theorem e_tuple (B : Bt X.mg) (ha : PA X [a] (tA X.K O ma ks)) (hg : Gl X "tuple" := by rfl) (he : starEach [a] X.env = (false, eval a X.env) :: starEach [] X.env := by rfl) (hpl : (backTo pos (starEach [] X.env)).any (·.1) = false := by rfl) : PE X (.Call (.Name "tuple" p) [a] [] pos) (tE X.K O (mOp ks ma dTuple) .fz) :=
  e_bty call_tuple_of s_tuple B.tuple (by decide +kernel) ha hg (by decide) (by decide) he hpl
end
section
variable {prog : Program} {w : World} {A : Around} {E : Value → Shared → Prop} {s : Shared}
structure MZip (h : Heap) (z p q i j a b : Addr) (m n : Nat) (f0 u v : Value) : Prop where
  zip : IsZip h z p q f0
  its : IsPair h p (.ref i) (.ref j)
  out : IsPair h q u v
  fst : h.IsTupleIter i a m
  snd : h.IsListIter j b n
end
section
variable {X : Cx} {O L : List Kd} {e e2 : Expr} {ma : MA} {ks : List Ak} {p pos tpos : Pos} {elts : List Expr} {kk : Nat}
end
section
variable {K : PySem.W.Frag}
theorem rpA_ints {F : Hp} : ∀ ns : List Int, RpA K F (ns.map PyData.int) (ns.map V.int)
  | [] => rfl
  | n :: ns => ⟨.int n, ns.map V.int, rfl, rfl, rpA_ints ns⟩
theorem law_sp0 {mf : En → Option (D × En)} {o : En} {ns : List Int} {a : Addr} {H : Hp} (e : mf [some (.list (ns.map PyData.int))] = some (.bool true, o)) (hT : ∀ P, P ∈ tabsOf K → LamX.TabS H P qU) (hS : SqL K H a (ns.map V.int)) : spF K [.fz] mf .fz [.ref a] H (fun v _ => v = .bl true) fun _ _ _ => False := by
  have s0 : Same (fun b => if b ∈ tabsOf K then none else H b) H := fun b u h => by
    have h : (if b ∈ tabsOf K then none else H b) = some u := h
    split at h
    · cases h
    · exact h
  have nS : SqL K (fun b => if b ∈ tabsOf K then none else H b) a (ns.map V.int) := by
    rcases hS with hS | hS
    · refine .inl ?_
      have na : a ∉ tabsOf K := fun z => by
        obtain ⟨ps, h, _⟩ := hT a z
        rcases hS with q | ⟨o, q⟩ <;> rw [h] at q <;> cases q
      rcases hS with q | ⟨o, q⟩
      · exact .inl (by show (if a ∈ tabsOf K then none else H a) = _; rw [if_neg na]; exact q)
      · exact .inr ⟨o, by show (if a ∈ tabsOf K then none else H a) = _; rw [if_neg na]; exact q⟩
    · exact .inr hS
  refine ⟨fun b => if b ∈ tabsOf K then none else H b, _, _, o, ⟨s0, rfl, rfl, fun i d h1 h2 => ?_, fun i k d h1 h2 h3 => ?_, fun i j p h1 h2 => ?_, fun e => (by cases e), fun P hP => ⟨hT P hP, if_pos hP⟩⟩, e, fun v F2 H2 _ _ r => r⟩
  · match i with
    | 0 =>
      cases h2
      exact ⟨.ref a, rfl, a, _, rfl, nS, rpA_ints ns⟩
    | i + 1 => cases h2
  · match i with
    | 0 =>
      cases h1
      cases h2
    | i + 1 => cases h3
  · obtain ⟨k, d, g1, g2, g3, g4⟩ := h1
    match i with
    | 0 =>
      cases g1
      cases g2
    | i + 1 => cases g3
end
def flV : D → Option V
  | .none => some .non
  | .bool b => some (.bl b)
  | .int i => some (.int i)
  | .str x => some (.str x)
  | _ => none
def flVs : List D → Option (List V)
  | [] => some []
  | d :: ds => (flV d).bind fun v => (flVs ds).map (v :: ·)
section
variable {K : PySem.W.Frag} {F H : Hp}
theorem flV_rp : ∀ {d : D} {v u : V}, flV d = some v → Vw K F H d u → u = v ∧ flatV v = true
  | .none, _, _, e, h => by cases e; exact ⟨h, rfl⟩
  | .bool _, _, _, e, h => by cases e; exact ⟨h, rfl⟩
  | .int _, _, _, e, h => by cases e; exact ⟨h, rfl⟩
  | .str _, _, _, e, h => by cases e; exact ⟨h, rfl⟩
  | .list _, _, _, e, _ => by cases e
  | .tuple _, _, _, e, _ => by cases e
  | .dict _, _, _, e, _ => by cases e
theorem flV_fz : ∀ {d : D} {v u : V}, flV d = some v → Rp K F d u → u = v ∧ flatV v = true
  | .none, _, _, e, h => by cases e; exact ⟨h, rfl⟩
  | .bool _, _, _, e, h => by cases e; exact ⟨h, rfl⟩
  | .int _, _, _, e, h => by cases e; exact ⟨h, rfl⟩
  | .str _, _, _, e, h => by cases e; exact ⟨h, rfl⟩
  | .list _, _, _, e, _ => by cases e
  | .tuple _, _, _, e, _ => by cases e
  | .dict _, _, _, e, _ => by cases e
theorem flVs_fz : ∀ {ds : List D} {vs us : List V}, flVs ds = some vs → RpA K F ds us → us = vs ∧ vs.all flatV = true
  | [], _, _, e, h => by
    cases e
    exact ⟨h, rfl⟩
  | d :: ds, _, _, e, ⟨u, us, e2, h1, h2⟩ => by
    obtain ⟨v, e3, e4⟩ := bind_some e
    obtain ⟨vs, e5, e6⟩ := map_some e4
    obtain ⟨a, b⟩ := flV_fz e3 h1
    obtain ⟨a2, b2⟩ := flVs_fz e5 h2
    subst e2 e6 a a2
    refine ⟨rfl, ?_⟩
    rw [List.all_cons, b, b2]
    rfl
def inD (neg : Bool) : List D → Option D
  | [x, .list ds] => (flV x).bind fun v => (flVs ds).map fun vs => .bool (if neg then !inV v vs else inV v vs)
  | [x, .tuple ds] => (flV x).bind fun v => (flVs ds).map fun vs => .bool (if neg then !inV v vs else inV v vs)
  | [.str x, .str z] => match x.cps with
    | ⟨[c]⟩ => some (.bool (if neg then !decide (c ∈ z.cps.toList) else decide (c ∈ z.cps.toList)))
    | _ => none
  | _ => none
def dIn := inD false
def dNin := inD true
def rInA (K : PySem.W.Frag) (neg : Bool) : R2 := fun x y H Q => rIn K neg x y H Q ∨ ∃ (c : Nat) (z : Str), x = .str ⟨#[c]⟩ ∧ y = .str z ∧ Q (.bl (if neg then !decide (c ∈ z.cps.toList) else decide (c ∈ z.cps.toList))) H
theorem op_ninA {X : Cx} : OpR X (compareOp .NotIn) (rInA X.K true) := fun pins s σ H x y v u Q I rx ry h => by
  rcases h with h | h
  · exact op_notIn_seq pins s σ H x y v u Q I rx ry h
  · exact op_notIn_sign pins s σ H x y v u Q I rx ry h
theorem s_inD {neg : Bool} : LSem K (rL2 (rInA K neg)) (inD neg) .fz := by
  intro F H ds vs d Q s hv ho q
  unfold inD at ho
  split at ho
  · rename_i x es
    obtain ⟨v, u, rfl, h1, a, xs, rfl, h3, h4⟩ := hv.two
    obtain ⟨v', e1, e2⟩ := bind_some ho
    obtain ⟨vs', e3, rfl⟩ := map_some e2
    obtain ⟨rfl, f1⟩ := flV_rp e1 h1
    obtain ⟨rfl, f2⟩ := flVs_fz e3 h4
    exact ⟨_, _, rfl, .inl ⟨a, _, rfl, .inl h3, f1, f2, q.now s rfl⟩⟩
  · rename_i x es
    obtain ⟨v, u, rfl, h1, a, xs, rfl, h3, h4⟩ := hv.two
    obtain ⟨v', e1, e2⟩ := bind_some ho
    obtain ⟨vs', e3, rfl⟩ := map_some e2
    obtain ⟨rfl, f1⟩ := flV_rp e1 h1
    obtain ⟨rfl, f2⟩ := flVs_fz e3 h4
    exact ⟨_, _, rfl, .inl ⟨a, _, rfl, .inr (same_sqt s h3), f1, f2, q.now s rfl⟩⟩
  · rename_i x z
    obtain ⟨v, u, rfl, h1, h3⟩ := hv.two
    have h1 : v = .str x := h1
    have h3 : u = .str z := h3
    subst h1 h3
    split at ho
    · rename_i c e
      cases ho
      refine ⟨_, _, rfl, .inr ⟨c, z, ?_, rfl, q.now s rfl⟩⟩
      obtain ⟨cp⟩ := x
      have e : cp = #[c] := e
      rw [e]
    · cases ho
  · cases ho
theorem s_nin : LSem K (rL2 (rInA K true)) dNin .fz := s_inD
def dInt : List D → Option D
  | [.int i] => some (.int i)
  | [.bool b] => some (.int (if b then 1 else 0))
  | _ => none
theorem s_int1 : LSem K (fun xs H Q => (∃ i, xs = [.int i] ∧ Q (.int i) H) ∨ ∃ k, xs = [.bl k] ∧ Q (.int (if k then 1 else 0)) H) dInt .fz := by
  intro F H ds vs d Q s hv ho q
  unfold dInt at ho
  split at ho
  · rename_i i
    cases ho
    obtain ⟨v, rfl, h1⟩ := hv.one
    have h1 : v = .int i := h1
    subst h1
    exact .inl ⟨i, rfl, q.now s rfl⟩
  · rename_i b
    cases ho
    obtain ⟨v, rfl, h1⟩ := hv.one
    have h1 : v = .bl b := h1
    subst h1
    exact .inr ⟨b, rfl, q.now s rfl⟩
  · cases ho
def dCatT : List D → Option D
  | [.tuple xs, .tuple ys] => if xs.length + ys.length ≤ 1000000 then some (.tuple (xs ++ ys)) else none
  | _ => none
theorem s_catT : LSem K (rL2 (rCatA K)) dCatT .fz := by
  intro F H ds vs d Q s hv ho q
  unfold dCatT at ho
  split at ho
  · rename_i es fs
    split at ho
    · rename_i hz
      cases ho
      obtain ⟨v, u, rfl, ⟨a, xs, rfl, h1, h2⟩, b, ys, rfl, h3, h4⟩ := hv.two
      have l1 := h2.length
      have l2 := h4.length
      refine ⟨_, _, rfl, a, b, xs, ys, rfl, rfl, same_sqt s h1, same_sqt s h3, by rw [l1, l2]; exact Nat.le_trans hz (by decide), fun e => ?_, fun _ e => ?_, fun _ _ => Post.tup s q (h2.append h4)⟩
      · have : es = [] := by
          rw [e] at l1
          exact List.length_eq_zero_iff.mp l1.symm
        subst this
        exact q.now s ⟨b, ys, rfl, h3, h4⟩
      · have : fs = [] := by
          rw [e] at l2
          exact List.length_eq_zero_iff.mp l2.symm
        subst this
        refine q.now s ?_
        rw [List.append_nil]
        exact ⟨a, xs, rfl, h1, h2⟩
    · cases ho
  · cases ho
def dAddS : List D → Option D
  | [.str x, .str y] => if x.length + y.length ≤ 100000 then some (.str (x ++ y)) else none
  | _ => none
theorem s_addS : LSem K (rL2 fun x y H Q => ∃ i j, x = .str i ∧ y = .str j ∧ i.length + j.length ≤ sizeLine ∧ Q (.str (i ++ j)) H) dAddS .fz := by
  intro F H ds vs d Q s hv ho q
  unfold dAddS at ho
  split at ho
  · rename_i x y
    split at ho
    · rename_i hz
      cases ho
      obtain ⟨v, u, rfl, h1, h3⟩ := hv.two
      have h1 : v = .str x := h1
      have h3 : u = .str y := h3
      subst h1 h3
      exact ⟨_, _, rfl, x, y, rfl, rfl, Nat.le_trans hz (by decide), q.now s rfl⟩
    · cases ho
  · cases ho
def dKey : D → Option Key
  | .int i => some (.inl i)
  | .str x => some (.inr x)
  | _ => none
theorem dKey_kD : ∀ k : Key, dKey (kD k) = some k
  | .inl _ => rfl
  | .inr _ => rfl
theorem dKey_rp : ∀ {d : D} {k : Key} {u : V}, dKey d = some k → Vw K F H d u → u = kV k
  | .none, _, _, e, _ => by cases e
  | .bool _, _, _, e, _ => by cases e
  | .int _, _, _, e, h => by cases e; exact h
  | .str _, _, _, e, h => by cases e; exact h
  | .list _, _, _, e, _ => by cases e
  | .tuple _, _, _, e, _ => by cases e
  | .dict _, _, _, e, _ => by cases e
def getD' (k : Key) : List (D × D) → Option D
  | [] => none
  | (a, b) :: r => if dKey a = some k then some b else getD' k r
theorem getD_rp {k : Key} : ∀ {kvs : List (D × D)} {vs : List (Key × V)}, RpD K F kvs vs → (getD' k kvs = none ∧ valV vs k = none) ∨ ∃ d v, getD' k kvs = some d ∧ valV vs k = some v ∧ Rp K F d v
  | [], vs, h => by
    have h : vs = [] := h
    subst h
    exact .inl ⟨rfl, rfl⟩
  | (a, b) :: r, vs, ⟨q, v, vr, e1, e2, h1, h2⟩ => by
    subst e1 e2
    by_cases e : q = k
    · subst e
      refine .inr ⟨b, v, ?_, valV_pos rfl, h1⟩
      show (if dKey (kD q) = some q then _ else _) = _
      rw [if_pos (dKey_kD q)]
    · have e2 : dKey (kD q) ≠ some k := by
        rw [dKey_kD]
        exact fun z => e (Option.some.inj z)
      rcases getD_rp (k := k) h2 with ⟨a1, a2⟩ | ⟨d, v', a1, a2, a3⟩
      · refine .inl ⟨?_, by rw [valV_neg e]; exact a2⟩
        show (if dKey (kD q) = some k then _ else _) = _
        rw [if_neg e2]
        exact a1
      · refine .inr ⟨d, v', ?_, by rw [valV_neg e]; exact a2, a3⟩
        show (if dKey (kD q) = some k then _ else _) = _
        rw [if_neg e2]
        exact a1
def dDget : List D → Option D
  | [.dict kvs, x] => gob kvs ((dKey x).bind fun k => getD' k kvs)
  | _ => none
def rDGet : R2 := fun x y H Q => ∃ a v, x = .ref a ∧ DGet H a y (some v) ∧ Q v H
theorem s_dget : LSem K (rL2 rDGet) dDget .fz := by
  intro F H ds vs d Q s hv ho q
  unfold dDget at ho
  split at ho
  · rename_i kvs x
    obtain ⟨n0, ho⟩ := gob_some ho
    obtain ⟨k, e1, e2⟩ := bind_some ho
    obtain ⟨v, u, rfl, h0, h3⟩ := hv.two
    obtain ⟨a, ws, rfl, h1, h2⟩ := noRpO n0 h0
    have := dKey_rp e1 h3
    subst this
    rcases getD_rp (k := k) h2 with ⟨a1, a2⟩ | ⟨d', v', a1, a2, a3⟩
    · rw [a1] at e2
      cases e2
    · rw [a1] at e2
      cases e2
      exact ⟨_, _, rfl, a, v', rfl, .inl ⟨ws, k, h1, rfl, a2.symm⟩, q.now s a3⟩
  · cases ho
def dDin (neg : Bool) : List D → Option D
  | [x, .dict kvs] => gob kvs ((dKey x).map fun k => .bool (if neg then !(getD' k kvs).isSome else (getD' k kvs).isSome))
  | _ => none
def rDIn (neg : Bool) : R2 := fun y x H Q => ∃ a o, x = .ref a ∧ DGet H a y o ∧ Q (.bl (if neg then !o.isSome else o.isSome)) H
theorem s_din {neg : Bool} : LSem K (rL2 (rDIn neg)) (dDin neg) .fz := by
  intro F H ds vs d Q s hv ho q
  unfold dDin at ho
  split at ho
  · rename_i x kvs
    obtain ⟨n0, ho⟩ := gob_some ho
    obtain ⟨k, e1, rfl⟩ := map_some ho
    obtain ⟨v, u, rfl, h3, h0⟩ := hv.two
    obtain ⟨a, ws, rfl, h1, h2⟩ := noRpO n0 h0
    have := dKey_rp e1 h3
    subst this
    refine ⟨_, _, rfl, a, valV ws k, rfl, .inl ⟨ws, k, h1, rfl, rfl⟩, ?_⟩
    have e3 : (valV ws k).isSome = (getD' k kvs).isSome := by
      rcases getD_rp (k := k) h2 with ⟨a1, a2⟩ | ⟨d', v', a1, a2, a3⟩
      · rw [a1, a2]
        rfl
      · rw [a1, a2]
        rfl
    rw [e3]
    exact q.now s rfl
  · cases ho
end
section
variable {X : Cx} {O : List Kd} {ka kb : Ak} {p pos : Pos} {e a b : Expr} {ma : MA} {m mb : M} {ks : List Ak}
theorem e_int1 (B : Bt X.mg) (ha : PA X [a] (tA X.K O ma ks)) (hg : Gl X "int" := by rfl) (he : starEach [a] X.env = (false, eval a X.env) :: starEach [] X.env := by rfl) (hpl : (backTo pos (starEach [] X.env)).any (·.1) = false := by rfl) : PE X (.Call (.Name "int" p) [a] [] pos) (tE X.K O (mOp ks ma dInt) .fz) :=
  e_bty call_int1 s_int1 B.int (by decide +kernel) ha hg (by decide) (by decide) he hpl
def mDnew : M := fun ρ => some (.dict [], ρ)
end
def showOk (d : D) : Bool := d.showable && !d.hasDict && decide (d.depth ≤ 60) && decide (d.shown.length ≤ 100000)
section
variable {X : Cx} {O : List Kd} {ka : Ak} {p pos : Pos} {e : Expr} {m : M}
end
structure GTup (K : PySem.W.Frag) (mg : Str → Option Value) (x : Str) (ds : List D) : Prop where
  ex : ∃ (a : Addr) (vs : List V), mg x = some (.ref a) ∧ (∀ H : Hp, SqT K H a vs) ∧ ∀ F : Hp, RpA K F ds vs
theorem e_dnew {X : Cx} {O : List Kd} {pos : Pos} : PE X (.Dict [] [] pos) (tE X.K O mDnew .ow) := by
  refine PEi pe_dnewK fun σ H Q ⟨F, ρ, d, ρ', ok, hm, q⟩ => ?_
  cases hm
  refine Post.dic (K := X.K) (F := F) (ds := []) (vs := []) ok.sub (fun v F2 H2 pu r2 => ?_) rfl
  obtain ⟨ok2, st2⟩ := ok.pur pu
  exact q v F2 H2 ok2 st2 (r2.rs ok st2)
def hasD' (k : Key) (kvs : List (D × D)) : Bool := kvs.any fun p => decide (dKey p.1 = some k)
def putD' (k : Key) (v : D) (kvs : List (D × D)) : List (D × D) := if hasD' k kvs = true then kvs.map (fun p => if dKey p.1 = some k then (p.1, v) else p) else kvs ++ [(kD k, v)]
section
variable {K : PySem.W.Frag} {F : Hp}
theorem RpD.length : ∀ {kvs : List (D × D)} {vs : List (Key × V)}, RpD K F kvs vs → vs.length = kvs.length
  | [], _, h => by
    rw [show _ = [] from h]
    rfl
  | (_, _) :: r, _, ⟨_, _, _, e, _, _, h⟩ => by
    rw [e, List.length_cons, List.length_cons, RpD.length h]
theorem RpD.any {k : Key} : ∀ {kvs : List (D × D)} {vs : List (Key × V)}, RpD K F kvs vs → (vs.any fun kv => decide (kv.1 = k)) = hasD' k kvs
  | [], _, h => by
    rw [show _ = [] from h]
    rfl
  | (_, _) :: r, _, ⟨q, v, vr, e, e2, h1, h⟩ => by
    subst e e2
    unfold hasD'
    rw [List.any_cons, List.any_cons]
    have z : decide (q = k) = decide (dKey (kD q) = some k) := by
      rw [dKey_kD]
      exact decide_eq_decide.mpr ⟨fun e => by rw [e], fun e => Option.some.inj e⟩
    have ih := RpD.any (k := k) h
    unfold hasD' at ih
    rw [ih]
    dsimp only
    rw [z]
theorem RpD.repl {k : Key} {d : D} {v : V} (hd : Rp K F d v) : ∀ {kvs : List (D × D)} {vs : List (Key × V)}, RpD K F kvs vs → RpD K F (kvs.map fun p => if dKey p.1 = some k then (p.1, d) else p) (vs.map fun kv => if kv.1 = k then (kv.1, v) else kv)
  | [], _, h => by
    rw [show _ = [] from h]
    rfl
  | (_, b) :: r, _, ⟨q, u, vr, e, e2, h1, h⟩ => by
    subst e e2
    have ih := RpD.repl (k := k) hd h
    rw [List.map_cons, List.map_cons]
    by_cases e : q = k
    · subst e
      rw [if_pos (dKey_kD q), if_pos rfl]
      exact ⟨q, v, _, rfl, rfl, hd, ih⟩
    · rw [if_neg (fun z => e (Option.some.inj ((dKey_kD q).symm.trans z))), if_neg e]
      exact ⟨q, u, _, rfl, rfl, h1, ih⟩
theorem RpD.snoc {k : Key} {d : D} {v : V} (hd : Rp K F d v) : ∀ {kvs : List (D × D)} {vs : List (Key × V)}, RpD K F kvs vs → RpD K F (kvs ++ [(kD k, d)]) (vs ++ [(k, v)])
  | [], _, h => by
    rw [show _ = [] from h]
    exact ⟨k, v, [], rfl, rfl, hd, rfl⟩
  | (_, b) :: r, _, ⟨q, u, vr, e, e2, h1, h⟩ => by
    subst e e2
    exact ⟨q, u, _, rfl, rfl, h1, RpD.snoc hd h⟩
theorem RpD.put {k : Key} {d : D} {v : V} (hd : Rp K F d v) {kvs : List (D × D)} {vs : List (Key × V)} (h : RpD K F kvs vs) : RpD K F (putD' k d kvs) (putK vs k v) := by
  unfold putD' putK
  rw [h.any]
  split
  · exact h.repl hd
  · exact h.snoc hd
end
section
variable {X : Cx} {O : List Kd} {pos : Pos} {e : Expr}
end
section
variable {X : Cx} {O : List Kd} {x f : Str} {p pos : Pos}
structure ClsF (K : PySem.W.Frag) (c f : Str) : Prop where
  cls : Cls K (He.ga K c)
  no : NoAttr K (He.ga K c) f
end
theorem keys_put {as : List Str} {fs : List (Str × V)} {f : Str} {v : V} (hf : f ∈ as) (h : KeysOk as fs) : KeysOk as (putF f v fs) := by
  have mem : ∀ (fs : List (Str × V)) (g : Str), g ∈ (putF f v fs).map (·.1) → g = f ∨ g ∈ fs.map (·.1) := fun fs => by
    induction fs with
    | nil =>
      intro g hg
      have hg : g ∈ [f] := hg
      exact .inl (List.mem_singleton.mp hg)
    | cons a r ih =>
      intro g hg
      obtain ⟨k, x⟩ := a
      rw [show putF f v ((k, x) :: r) = (if k = f then (k, v) :: r else (k, x) :: putF f v r) from rfl] at hg
      by_cases hk : k = f
      · rw [if_pos hk] at hg
        exact .inr hg
      · rw [if_neg hk] at hg
        rcases List.mem_cons.mp (show g ∈ k :: (putF f v r).map (·.1) from hg) with z | z
        · exact .inr (by rw [z]; exact List.mem_cons_self)
        · rcases ih g z with z | z
          · exact .inl z
          · exact .inr (List.mem_cons_of_mem _ z)
  have nd : ∀ fs : List (Str × V), (fs.map (·.1)).Nodup → ((putF f v fs).map (·.1)).Nodup := fun fs => by
    induction fs with
    | nil =>
      intro _
      exact List.nodup_cons.mpr ⟨fun z => (by cases z), List.nodup_nil⟩
    | cons a r ih =>
      intro hn
      obtain ⟨k, x⟩ := a
      obtain ⟨n1, n2⟩ := List.nodup_cons.mp (show (k :: r.map (·.1)).Nodup from hn)
      rw [show putF f v ((k, x) :: r) = (if k = f then (k, v) :: r else (k, x) :: putF f v r) from rfl]
      by_cases hk : k = f
      · rw [if_pos hk]
        exact hn
      · rw [if_neg hk]
        refine List.nodup_cons.mpr ⟨fun z => ?_, ih n2⟩
        rcases mem r _ z with z | z
        · exact hk z
        · exact n1 z
  refine ⟨nd fs h.1, fun g hg => ?_⟩
  rcases mem fs g hg with z | z
  · rw [z]
    exact hf
  · exact h.2 g z
theorem nodup_len : ∀ {as bs : List Str}, as.Nodup → (∀ a, a ∈ as → a ∈ bs) → as.length ≤ bs.length
  | [], _, _, _ => Nat.zero_le _
  | a :: as, bs, h, m => by
    obtain ⟨n1, n2⟩ := List.nodup_cons.mp h
    have ha : a ∈ bs := m a List.mem_cons_self
    have ih := nodup_len (bs := bs.erase a) n2 fun b hb => (List.mem_erase_of_ne fun z => n1 (by rw [← z]; exact hb)).mpr (m b (List.mem_cons_of_mem _ hb))
    rw [List.length_erase_of_mem ha] at ih
    have : 0 < bs.length := List.length_pos_of_mem ha
    rw [List.length_cons]
    omega
theorem KeysOk.len {as : List Str} {fs : List (Str × V)} (h : KeysOk as fs) : fs.length ≤ as.length := by
  have := nodup_len h.1 h.2
  rw [List.length_map] at this
  exact this
theorem KeysOk.non {as : List Str} {fs : List (Str × V)} (h : KeysOk as fs) {m : Str} (hm : m ∉ as) : fs.lookup m = none := by
  cases e : fs.lookup m with
  | none => rfl
  | some v => exact (hm (h.2 m (List.mem_map.mpr ⟨(m, v), PySem.mem_of_lookup e, rfl⟩))).elim
section
variable {K : PySem.W.Frag} {O : List Kd} {w : Wd} {i : Nat} {f : Str} {C dx : Addr} {fs : List (Str × V)} {v : V} {d : D}
theorem ObOk.store {w' : Wd} (h : ObOk K O w) (e : w.H (ob O w.σ) = some (.ins C dx fs)) (hf : f ∈ ats O) (e1 : w'.σ = w.σ) (e2 : w'.H = upd w.H (ob O w.σ) (.ins C dx (putF f v fs))) (e3 : w'.F = w.F) (nf : ¬ Fp O w' (ob O w.σ)) : ObOk K O w' := by
  have eo : ob O w'.σ = ob O w.σ := by rw [e1]
  obtain ⟨a0, a1, ⟨C', dx', fs', a2, a3⟩, a4, _, a6⟩ := h
  rw [e] at a2
  cases a2
  have hd : dx ≠ ob O w.σ := fun z => by
    rw [z, e] at a3
    cases a3
  refine ⟨by rw [eo, e1]; exact a0, a1, ⟨C, dx, putF f v fs, by rw [eo, e2, upd_same], by rw [eo, e2, upd_ne hd]; exact a3⟩, by rw [eo, e3]; exact a4, by rw [eo]; exact nf, fun C' dx' fs' z => ?_⟩
  rw [eo, e2, upd_same] at z
  cases z
  obtain ⟨b1, b2⟩ := a6 C dx fs e
  exact ⟨b1, keys_put hf b2⟩
end
section
variable {X : Cx} {O : List Kd} {x f : Str} {p pos pos' : Pos} {e : Expr} {m : M} {r : Ak}
end
structure StpB (b : Bool) (O : List Kd) (w w' : Wd) : Prop extends StpS O w w' where
  ostB : b = true → hasO O = true → w'.H (ob O w.σ) = w.H (ob O w.σ)
section
variable {X : Cx} {O : List Kd} {e a b : Expr} {m : M} {k : Ak} {ta tb : MT} {r : Ak} {pos : Pos} {rest : List Expr} {ma mb : MS} {body : List Stmt} {x : Str} {i : Nat}
end
structure MShape (Oi Ol Ob : List Kd) : Prop where
  hi : hasO Oi = true
  hb : hasO Ob = true
  ea : ats Ob = ats Oi
  ec : cn Ob = cn Oi
  o1 : oi Oi = 0
  o2 : oi Ob = 0
  en : nl Ob = nl Oi + Ol.length
  eq : Ob = Oi.take (nl Oi) ++ (Ol ++ Oi.drop (nl Oi))
  np : ∀ (i : Nat) (k : Kd), Oi[i]? = some k → k.pin = false
  ps : 0 < nl Oi
  le : nl Oi ≤ Oi.length
theorem npl {k : Kd} (h : k.pin = false) : k.lock = false := by
  cases k <;> first | rfl | cases h
def upM (n c i : Nat) : Nat := if i < n then i else i + c
def entM (n c : Nat) (ρ : En) : En := ρ.take n ++ (List.replicate c none ++ ρ.drop n)
def outM (n c : Nat) (ρ : En) : En := List.replicate n none ++ ρ.drop (n + c)
section
variable {K : PySem.W.Frag} {Oi Ol Ob : List Kd} {F H : Hp} {σ σl : L2.St} {ρ : En}
theorem MShape.get (S : MShape Oi Ol Ob) (i : Nat) : Ob[upM (nl Oi) Ol.length i]? = Oi[i]? := by
  have lt : (Oi.take (nl Oi)).length = nl Oi := by rw [List.length_take]; exact Nat.min_eq_left S.le
  rw [S.eq]
  unfold upM
  by_cases h : i < nl Oi
  · rw [if_pos h, List.getElem?_append_left (by omega), List.getElem?_take_of_lt h]
  · rw [if_neg h, List.getElem?_append_right (by omega), List.getElem?_append_right (by omega), List.getElem?_drop, lt]
    congr 1
    omega
theorem entM_get {n c : Nat} (hn : n ≤ ρ.length) (i : Nat) : (entM n c ρ)[upM n c i]? = ρ[i]? := by
  have lt : (ρ.take n).length = n := by rw [List.length_take]; exact Nat.min_eq_left hn
  unfold entM upM
  by_cases h : i < n
  · rw [if_pos h, List.getElem?_append_left (by omega), List.getElem?_take_of_lt h]
  · rw [if_neg h, List.getElem?_append_right (by omega), List.getElem?_append_right (by rw [List.length_replicate]; omega), List.getElem?_drop, List.length_replicate, lt]
    congr 1
    omega
theorem entM_loc {n c : Nat} (hn : n ≤ ρ.length) {i : Nat} (h1 : n ≤ i) (h2 : i < n + c) : (entM n c ρ)[i]? = some none := by
  have lt : (ρ.take n).length = n := by rw [List.length_take]; exact Nat.min_eq_left hn
  unfold entM
  rw [List.getElem?_append_right (by omega), List.getElem?_append_left (by rw [List.length_replicate]; omega), List.getElem?_replicate, if_pos (by omega)]
theorem upM_cases (n c i : Nat) : (∃ j, i = upM n c j) ∨ (n ≤ i ∧ i < n + c) := by
  by_cases h : i < n
  · exact .inl ⟨i, by unfold upM; rw [if_pos h]⟩
  · by_cases h2 : i < n + c
    · exact .inr ⟨by omega, h2⟩
    · exact .inl ⟨i - c, by unfold upM; rw [if_neg (by omega)]; omega⟩
theorem upM_inj {n c i j : Nat} (h : upM n c i = upM n c j) : i = j := by
  unfold upM at h
  split at h <;> split at h <;> omega
theorem MShape.gob (S : MShape Oi Ol Ob) (h : σ.length = nl Oi) : ob Ob (σ ++ σl) = ob Oi σ := by
  unfold ob
  rw [S.o1, S.o2, List.getElem?_append_left (by have := S.ps; omega)]
theorem MShape.gsv (S : MShape Oi Ol Ob) (h : σ.length = nl Oi) (i : Nat) : sv Ob H (σ ++ σl) (upM (nl Oi) Ol.length i) = sv Oi H σ i := by
  unfold upM
  by_cases z : i < nl Oi
  · rw [if_pos z, sv_loc (by rw [S.en]; omega), sv_loc z, List.getElem?_append_left (by omega)]
  · rw [if_neg z]
    unfold sv
    rw [if_neg (by rw [S.en]; omega), if_neg z, S.ea, S.en, S.gob h, show i + Ol.length - (nl Oi + Ol.length) = i - nl Oi by omega]
theorem MShape.gown (S : MShape Oi Ol Ob) (ok : Ok K Oi ⟨F, H, σ, ρ⟩) {F' : Hp} {i : Nat} {p : Addr} : OwnAt Ob ⟨F', H, σ ++ σl, entM (nl Oi) Ol.length ρ⟩ i p ↔ ∃ j, i = upM (nl Oi) Ol.length j ∧ OwnAt Oi ⟨F, H, σ, ρ⟩ j p := by
  have hs : σ.length = nl Oi := ok.ls
  have hr : nl Oi ≤ ρ.length := by rw [show ρ.length = Oi.length from ok.lr]; exact S.le
  constructor
  · rintro ⟨k, d, h1, h2, h3, h4⟩
    have h3 : (entM (nl Oi) Ol.length ρ)[i]? = some (some d) := h3
    rcases upM_cases (nl Oi) Ol.length i with ⟨j, e⟩ | ⟨e1, e2⟩
    · subst e
      rw [S.get] at h1
      rw [entM_get hr] at h3
      exact ⟨j, rfl, k, d, h1, h2, h3, (S.gsv hs j).symm.trans h4⟩
    · rw [entM_loc hr e1 e2] at h3
      cases h3
  · rintro ⟨j, rfl, k, d, h1, h2, h3, h4⟩
    exact ⟨k, d, (S.get j).trans h1, h2, (entM_get hr j).trans h3, (S.gsv hs j).trans h4⟩
theorem MShape.gfp (S : MShape Oi Ol Ob) (ok : Ok K Oi ⟨F, H, σ, ρ⟩) {F' : Hp} {p : Addr} : Fp Ob ⟨F', H, σ ++ σl, entM (nl Oi) Ol.length ρ⟩ p ↔ Fp Oi ⟨F, H, σ, ρ⟩ p :=
  ⟨fun ⟨i, h⟩ => by
    obtain ⟨j, _, h⟩ := (S.gown ok).mp h
    exact ⟨j, h⟩, fun ⟨j, h⟩ => ⟨_, (S.gown ok).mpr ⟨j, rfl, h⟩⟩⟩
theorem outM_get {n c : Nat} {i : Nat} {d : D} (h : (outM n c ρ)[i]? = some (some d)) : n ≤ i ∧ ρ[upM n c i]? = some (some d) := by
  unfold outM at h
  by_cases z : i < n
  · rw [List.getElem?_append_left (by rw [List.length_replicate]; exact z), List.getElem?_replicate, if_pos z] at h
    cases h
  · rw [List.getElem?_append_right (by rw [List.length_replicate]; omega), List.getElem?_drop, List.length_replicate] at h
    refine ⟨by omega, ?_⟩
    unfold upM
    rw [if_neg z]
    rw [show n + c + (i - n) = i + c by omega] at h
    exact h
theorem MShape.ext (S : MShape Oi Ol Ob) {σ' : L2.St} {F' H' : Hp} {ρ' : En} {r : Ak} {d : D} {v : V} {b : Bool} (hσ : σl.length = Ol.length) (hr : ∀ i, r ≠ .br i) (ok : Ok K Oi ⟨F, H, σ, ρ⟩) (ok' : Ok K Ob ⟨F', H', σ', ρ'⟩)
    (st : StpB b Ob ⟨F, H, σ ++ σl, entM (nl Oi) Ol.length ρ⟩ ⟨F', H', σ', ρ'⟩) (rs : Rs K Ob ⟨F, H, σ ++ σl, entM (nl Oi) Ol.length ρ⟩ ⟨F', H', σ', ρ'⟩ r d v) :
    Ok K Oi ⟨F', H', σ, outM (nl Oi) Ol.length ρ'⟩ ∧ StpB b Oi ⟨F, H, σ, ρ⟩ ⟨F', H', σ, outM (nl Oi) Ol.length ρ'⟩ ∧ Rs K Oi ⟨F, H, σ, ρ⟩ ⟨F', H', σ, outM (nl Oi) Ol.length ρ'⟩ r d v := by
  have hs : σ.length = nl Oi := ok.ls
  have hl : ρ.length = Oi.length := ok.lr
  have hl' : ρ'.length = Ob.length := ok'.lr
  have eo : ob Ob (σ ++ σl) = ob Oi σ := S.gob hs
  have eo' : ob Ob σ' = ob Oi σ := (st.o0 S.hb).1.trans eo
  have fp : ∀ {p : Addr}, Fp Ob ⟨F, H, σ ++ σl, entM (nl Oi) Ol.length ρ⟩ p ↔ Fp Oi ⟨F, H, σ, ρ⟩ p := fun {p} => S.gfp ok
  have lb : Ob.length = Oi.length + Ol.length := by
    rw [congrArg List.length S.eq, List.length_append, List.length_append, List.length_take, List.length_drop, Nat.min_eq_left S.le]
    have := S.le
    omega
  -- attributes as they are
  have svA : ∀ {j : Nat}, nl Oi ≤ j → sv Ob H' σ' (upM (nl Oi) Ol.length j) = sv Oi H' σ j := fun {j} hj => by
    unfold upM
    rw [if_neg (by omega)]
    unfold sv
    rw [if_neg (by rw [S.en]; omega), if_neg (by omega), S.ea, S.en, eo', show j + Ol.length - (nl Oi + Ol.length) = j - nl Oi by omega]
  have back : ∀ {j : Nat} {p : Addr}, OwnAt Oi ⟨F', H', σ, outM (nl Oi) Ol.length ρ'⟩ j p → OwnAt Ob ⟨F', H', σ', ρ'⟩ (upM (nl Oi) Ol.length j) p := fun {j p} ⟨k, d', h1, h2, h3, h4⟩ => by
    obtain ⟨g1, g2⟩ := outM_get h3
    exact ⟨k, d', (S.get j).trans h1, h2, g2, (svA g1).trans h4⟩
  have fpb : ∀ {p : Addr}, Fp Oi ⟨F', H', σ, outM (nl Oi) Ol.length ρ'⟩ p → Fp Ob ⟨F', H', σ', ρ'⟩ p := fun ⟨j, h⟩ => ⟨_, back h⟩
  have bo := ok.obj S.hi
  have bo' := ok'.obj S.hb
  have okO : Ok K Oi ⟨F', H', σ, outM (nl Oi) Ol.length ρ'⟩ := by
    refine ⟨ok'.sub, ok.ls, ?_, fun j d' h1 h2 => ?_, fun j k d' h1 h2 h3 => ?_, fun i j p h1 h2 => upM_inj (ok'.ap _ _ p (back h1) (back h2)), fun _ => ?_, ok'.tb⟩
    · show (outM _ _ ρ').length = _
      unfold outM
      rw [List.length_append, List.length_replicate, List.length_drop, hl', lb]
      have := S.le
      omega
    · obtain ⟨g1, g2⟩ := outM_get h2
      obtain ⟨u, g3, g4⟩ := ok'.fz _ d' ((S.get j).trans h1) g2
      exact ⟨u, (svA g1).symm.trans g3, g4⟩
    · obtain ⟨g1, g2⟩ := outM_get h3
      obtain ⟨p, g3, g4⟩ := ok'.ow _ k d' ((S.get j).trans h1) h2 g2
      exact ⟨p, (svA g1).symm.trans g3, g4⟩
    · obtain ⟨a0, a1, ⟨C, dx, fs, a2, a3⟩, a4, a5, a6⟩ := bo'
      rw [eo'] at a2 a3 a4 a5 a6
      rw [S.ec, S.ea] at a6
      exact ⟨bo.at0, bo.n0, ⟨C, dx, fs, a2, a3⟩, a4, fun z => a5 (fpb z), a6⟩
  refine ⟨okO, ⟨⟨st.ex, fun p o h z y => st.kp p o h (fun q => z (fp.mp q)) (fun _ => by rw [eo]; exact y S.hi), fun p o h z f => st.nw p o h (fun q => z (fp.mp q)) f, fun p h => ?_, fun j k h1 h2 => ?_, fun j k h1 h2 => ?_, fun j k p d' h1 h2 => ?_, fun _ => ⟨rfl, fun z => ?_⟩, st.tb⟩, fun hb _ => ?_⟩, ?_⟩
  · rcases st.fp p (fpb h) with q | q
    · exact .inl (fp.mp q)
    · exact .inr q
  · rw [S.np j k h1] at h2
    cases h2
  · rw [npl (S.np j k h1)] at h2
    cases h2
  · rw [npl (S.np j k h1)] at h2
    cases h2
  · have y := (st.o0 S.hb).2
    rw [eo] at y
    exact y z
  · have y := st.ostB hb S.hb
    rw [eo] at y
    exact y
  · cases r with
    | fz => exact rs
    | ow =>
      obtain ⟨p, e, g1, g2, g3, g4, g5⟩ := rs
      refine ⟨p, e, g1, g2, fun z => g3 (fpb z), ?_, fun _ => ?_⟩
      · rcases g4 with z | z
        · exact .inl (fp.mp z)
        · exact .inr z
      · have g5 := g5 S.hb
        rw [eo'] at g5
        exact g5
    | br i => exact (hr i rfl).elim
end
section
variable {X : Cx} {O : List Kd} {e : Expr} {m : M} {ms : MS} {r : Ak} {pos : Pos} {body : List Stmt}
end
def mMet (n c : Nat) (r : Ak) (b : MS) : En → Option (D × En) := fun ρ => (b (entM n c ρ)).bind fun p => match p.1 with
  | .rt d => some (d, outM n c p.2)
  | .nx => (match r with
    | .fz => some (.none, outM n c p.2)
    | _ => none)
  | _ => none
section
variable {P : Program} {w : World} {K : PySem.W.Frag} {mg : Str → Option Value} {base : Heap} {f : Addr} {fd : FuncData}
end
structure CShape (O Oi : List Kd) (n : Nat) : Prop where
  ho : hasO O = true
  hi : hasO Oi = true
  ea : ats Oi = ats O
  ec : cn Oi = cn O
  o1 : oi Oi = 0
  ln : nl Oi = n + 1
  lo : Oi.length = nl Oi + (ats O).length + 1
  lo2 : O.length = nl O + (ats O).length + 1
  fzs : ∀ i, i < nl Oi → Oi[i]? = some .fz
  kk : ∀ i, i < (ats O).length → Oi[nl Oi + i]? = O[nl O + i]?
  np : ∀ (i : Nat) (k : Kd), Oi[i]? = some k → k.pin = false
def mCallM (nc np : Nat) (mf : En → Option (D × En)) (ma : MA) : M := fun ρ => (ma ρ).bind fun p => (mf ((none :: p.1.map some) ++ p.2.drop nc)).bind fun z => some (z.1, p.2.take nc ++ z.2.drop np)
section
variable {K : PySem.W.Frag} {O Oi : List Kd} {n : Nat} {w1 : Wd} {ds : List D} {vs : List V}
theorem cell_last {O : List Kd} (h : hasO O = true) : ∃ o c as, O.getLast? = some (.cell o c as) := hasO_iff.mp h
theorem CShape.at_ (S : CShape O Oi n) {i : Nat} {k : Kd} (h : Oi[i]? = some k) (hk : k.own = true ∨ (k = .fz ∧ nl Oi ≤ i)) : nl Oi ≤ i ∧ i < nl Oi + (ats O).length ∧ O[nl O + (i - nl Oi)]? = some k := by
  have hi : i < Oi.length := (List.getElem?_eq_some_iff.mp h).1
  have h1 : nl Oi ≤ i := by
    rcases hk with hk | hk
    · refine Nat.le_of_not_lt fun z => ?_
      rw [S.fzs i z] at h
      cases h
      cases hk
    · exact hk.2
  have h2 : i < nl Oi + (ats O).length := by
    refine Classical.byContradiction fun z => ?_
    have e : i = Oi.length - 1 := by rw [S.lo] at hi ⊢; omega
    obtain ⟨o, c, as, hl⟩ := cell_last S.hi
    rw [List.getLast?_eq_getElem?, ← e, h] at hl
    cases hl
    rcases hk with hk | ⟨hk, _⟩
    · cases hk
    · cases hk
  refine ⟨h1, h2, ?_⟩
  have e := S.kk (i - nl Oi) (by omega)
  rw [show nl Oi + (i - nl Oi) = i by omega, h] at e
  exact e.symm
theorem CShape.gob (S : CShape O Oi n) {vs : List V} : ob Oi ((V.ref (ob O w1.σ) :: vs).map some) = ob O w1.σ := by
  show (match ((V.ref (ob O w1.σ) :: vs).map some)[oi Oi]? with | some (some (V.ref p)) => p | _ => 0) = _
  rw [S.o1] <;> rfl
theorem CShape.gsv (S : CShape O Oi n) (H : Hp) {i : Nat} (h1 : nl Oi ≤ i) : sv Oi H ((V.ref (ob O w1.σ) :: vs).map some) i = sv O H w1.σ (nl O + (i - nl Oi)) := by
  unfold sv
  rw [if_neg (by omega), if_neg (by omega), S.gob, S.ea, show nl O + (i - nl Oi) - nl O = i - nl Oi by omega]
theorem CShape.grho (S : CShape O Oi n) (hd : ds.length = n) {ρ : En} {i : Nat} (h1 : nl Oi ≤ i) : ((none :: ds.map some) ++ ρ.drop (nl O))[i]? = ρ[nl O + (i - nl Oi)]? := by
  have hl : (none :: ds.map some).length = nl Oi := by rw [List.length_cons, List.length_map, hd, S.ln]
  rw [List.getElem?_append_right (by omega), hl, List.getElem?_drop]
theorem CShape.gown (S : CShape O Oi n) (hd : ds.length = n) {F' H' : Hp} {ρ : En} {i : Nat} {p : Addr} (h : OwnAt Oi ⟨F', H', (V.ref (ob O w1.σ) :: vs).map some, (none :: ds.map some) ++ ρ.drop (nl O)⟩ i p) :
    nl Oi ≤ i ∧ OwnAt O ⟨F', H', w1.σ, ρ⟩ (nl O + (i - nl Oi)) p := by
  obtain ⟨k, d, h1, h2, h3, h4⟩ := h
  obtain ⟨g1, g2, g3⟩ := S.at_ h1 (.inl h2)
  exact ⟨g1, k, d, g3, h2, (S.grho hd g1).symm.trans h3, (S.gsv H' g1).symm.trans h4⟩
end
section
variable {X : Cx} {CX : CXT} {k : Nat} {f C : Addr} {fd : FuncData} {ps : List Str} {sp : Sp} {dvs : List V} {ds : List Value} {E : XK} {x m : Str} {p pos apos : Pos} {e o : Expr} {es : List Expr} {ta : TE} {t : TA}
end
structure MtX (P : Program) (w : World) (K : PySem.W.Frag) (mg : Str → Option Value) (base : Heap) (c m : Str) (k : Nat) (ps : List Str) (sp : Sp) : Prop where
  cls : Cls K (He.ga K c)
  mt : Meth K (He.ga K c) m (He.ma K (He.ga K c) m)
  ex : ∃ fd : FuncData, FnG P w K mg base CX0 k (He.ma K (He.ga K c) m) fd ps sp ∧ Binds K fd ps []
structure MkX (P : Program) (w : World) (K : PySem.W.Frag) (mg : Str → Option Value) (base : Heap) (c : Str) (k : Nat) (ps : List Str) (sp : Sp) : Prop where
  mkr : Mk K (He.ga K c) (He.ma K (He.ga K c) "__init__")
  gl : mg c = some (.ref (He.ga K c))
  ex : ∃ fd : FuncData, FnG P w K mg base CX0 k (He.ma K (He.ga K c) "__init__") fd ps sp ∧ Binds K fd ps []
section
variable {X : Cx} {O Oi : List Kd} {b : Bool} {k j n : Nat} {ps : List Str} {mf : En → Option (D × En)} {r : Ak} {x m : Str} {p pos apos : Pos} {e : Expr} {es : List Expr} {ma : MA} {ks : List Ak}
end
structure KShape (O Oi O' : List Kd) (i n : Nat) : Prop where
  n0 : hasO O = false
  hi : hasO Oi = true
  h' : hasO O' = true
  ea : ats O' = ats Oi
  ec : cn O' = cn Oi
  o1 : oi Oi = 0
  o2 : oi O' = i
  ln : nl Oi = n + 1
  l' : nl O' = O.length
  lo : Oi.length = nl Oi + (ats Oi).length + 1
  lo2 : O'.length = O.length + (ats Oi).length + 1
  oi_ : O[i]? = some .fz
  lc : ∀ j, j < O.length → O'[j]? = O[j]?
  fzs : ∀ j, j < nl Oi → Oi[j]? = some .fz
  kk : ∀ j, j < (ats Oi).length → Oi[nl Oi + j]? = O'[O.length + j]?
  np : ∀ (j : Nat) (k : Kd), Oi[j]? = some k → k.pin = false
section
variable {K : PySem.W.Frag} {O Oi O' : List Kd} {i n : Nat} {w1 : Wd} {ds : List D} {vs : List V} {x dx : Addr}
end
structure Made (K : PySem.W.Frag) (O O' : List Kd) (w1 wm : Wd) : Prop where
  ok : Ok K O' wm
  ex : Same w1.F wm.F
  kp : SameK w1.H wm.H
  nw : ∀ b o, w1.H b = some o → w1.F b = none → wm.F b = none
  fp : ∀ b, Fp O' wm b → Fp O w1 b ∨ w1.H b = none
  ob0 : w1.H (ob O' wm.σ) = none
section
variable {K : PySem.W.Frag} {O Oi O' : List Kd} {i n : Nat} {w1 : Wd} {ds : List D} {vs : List V} {x dx : Addr}
end
section
variable {X : Cx} {O Oi O' : List Kd} {k j : Nat} {ps : List Str} {mf : En → Option (D × En)} {r : Ak} {x c : Str} {p pos pos' spos : Pos} {e : Expr} {es : List Expr} {ma : MA} {ks : List Ak} {rest : List Stmt} {mm : MS}
end
def signs (x : Str) : List D := x.cps.toList.map fun c => .str ⟨#[c]⟩
def mItStr (m : M) : MI := fun ρ => (m ρ).bind fun p => match p.1 with
  | .str x => some (signs x, p.2)
  | _ => none
theorem signs_len {x : Str} : (signs x).length = x.cps.size := by
  unfold signs
  rw [List.length_map, Array.length_toList]
section
variable {X : Cx} {O L : List Kd} {tg e : Expr} {k : Ak}
theorem i_str {m : M} (h : PE X e (tE X.K O m .fz)) : PI X tg e (tI X.K O L (mItStr m)) := by
  refine PIi (pi_str h) fun σ H R ⟨F, ρ, ds, ρ', ok, hm, q⟩ => ?_
  obtain ⟨⟨d, ρ1⟩, e1, e2⟩ := bind_some hm
  cases d <;> first | (cases e2; done) | skip
  rename_i x
  cases e2
  refine ⟨F, ρ, _, _, ok, e1, fun v F1 H1 ok1 st1 r1 => ?_⟩
  have r1 : v = .str x := r1
  subst r1
  refine ⟨x, rfl, q _ F1 H1 (fun _ => True) ok1 st1 ?_ fun _ _ _ _ _ => trivial⟩
  rw [signs_len]
  refine walk_str.mono (fun _ h => h) fun i H x' H' hi _ y F e s => ?_
  obtain ⟨rfl, c, hc, rfl⟩ := y
  refine ⟨F, .refl s, .str ⟨#[c]⟩, ?_, rfl⟩
  unfold signs
  rw [List.getElem?_map, Array.getElem?_toList, hc]
  rfl
end
theorem vw_dict {K : PySem.W.Frag} {F H : Hp} {kvs : List (D × D)} {v : V} (n : noOb kvs = true) (h : Vw K F H (.dict kvs) v) : ∃ a vs, v = .ref a ∧ Rd H a (.dK vs) ∧ RpD K F kvs vs := noRpO n h
section
variable {K : PySem.W.Frag} {O : List Kd} {w w' : Wd}
end
section
variable {X : Cx} {O : List Kd} {o e f : Expr} {apos cpos : Pos} {ka : Ak} {m mb : M}
end
section
variable {X : Cx} {O : List Kd} {o e f : Expr} {apos cpos : Pos} {m mb : M}
end
section
variable {X : Cx} {O : List Kd} {p pos : Pos} {a : Expr} {ma : MA} {ks : List Ak}
end
section
variable {K : PySem.W.Frag} {O : List Kd} {w : Wd} {p : Addr} {o o' : HO}
theorem Ok.oth (ok : Ok K O w) (hp : w.H p = some o) (hF : w.F p = none) (np : ¬ Fp O w p) (npo : hasO O = true → p ≠ ob O w.σ) (ho : ∀ a, o ≠ .own a) (nt : (∀ ps, o ≠ .tbl ps) ∧ ∀ φ, o ≠ .ext φ) :
    Ok K O ⟨w.F, upd w.H p o', w.σ, w.ρ⟩ := by
  have hO : hasO O = true → upd w.H p o' (ob O w.σ) = w.H (ob O w.σ) := fun e => upd_ne fun z => npo e z.symm
  have hsv : ∀ j, sv O (upd w.H p o') w.σ j = w.sv O j := fun j => sv_same hO
  have hfp : ∀ {b : Addr}, Fp O ⟨w.F, upd w.H p o', w.σ, w.ρ⟩ b ↔ Fp O w b := fp_same hO
  have hat : ∀ {i : Nat} {b : Addr}, OwnAt O ⟨w.F, upd w.H p o', w.σ, w.ρ⟩ i b ↔ OwnAt O w i b := own_same hO
  refine ⟨fun b u hb => ?_, ok.ls, ok.lr, fun i d e1 e2 => ?_, fun i k d e1 e2 e3 => ?_, fun i j q e1 e2 => ok.ap i j q (hat.mp e1) (hat.mp e2), fun e => ?_, fun P hP => ok_put hp nt (ok.tb P hP)⟩
  · show upd w.H p _ b = _
    rw [upd_ne (ne_of_none hb hF)]
    exact ok.sub b u hb
  · obtain ⟨u, g1, g2⟩ := ok.fz i d e1 e2
    exact ⟨u, (hsv i).trans g1, g2⟩
  · obtain ⟨q, g1, g2, u, g3, g4⟩ := ok.ow i k d e1 e2 e3
    have ne : q ≠ p := fun z => np (by rw [← z]; exact ⟨i, k, d, e1, e2, e3, g1⟩)
    exact ⟨q, (hsv i).trans g1, g2, u, by show upd w.H p _ q = _; rw [upd_ne ne]; exact g3, g4⟩
  · obtain ⟨a0, a1, ⟨C, dx, fs, a2, a3⟩, a4, a5, a6⟩ := ok.obj e
    have hd : dx ≠ p := fun z => by
      rw [z, hp] at a3
      cases a3
      exact ho _ rfl
    exact ⟨a0, a1, ⟨C, dx, fs, (hO e).trans a2, by show upd w.H p _ dx = _; rw [upd_ne hd]; exact a3⟩, a4, fun h => a5 (hfp.mp h), fun C dx fs z => a6 C dx fs ((hO e).symm.trans z)⟩
theorem Stp.oth {w0 : Wd} (st : Stp O w0 w) (ok : Ok K O w) (hp : w.H p = some o) (nt : (∀ ps, o ≠ .tbl ps) ∧ ∀ φ, o ≠ .ext φ) (h0 : w0.H p = none) (np : ¬ Fp O w p) (npo : hasO O = true → p ≠ ob O w.σ) : Stp O w0 ⟨w.F, upd w.H p o', w.σ, w.ρ⟩ := by
  have hO : hasO O = true → upd w.H p o' (ob O w.σ) = w.H (ob O w.σ) := fun e => upd_ne fun z => npo e z.symm
  have hsv : ∀ j, sv O (upd w.H p o') w.σ j = w.sv O j := fun j => sv_same hO
  have hfp : ∀ {b : Addr}, Fp O ⟨w.F, upd w.H p o', w.σ, w.ρ⟩ b ↔ Fp O w b := fp_same hO
  refine ⟨⟨st.ex, fun b u hb z _ => ?_, st.nw, fun b h => st.fp b (hfp.mp h), fun i k e1 e2 => (hsv i).trans (st.pn i k e1 e2), st.lk, fun i k q d e1 e2 e3 e4 => ?_, fun e => ⟨(st.o0 e).1, fun z => ?_⟩, fun P h => tab_put hp nt (st.tb P h)⟩, fun e => ?_⟩
  · show KH u (upd w.H p _ b)
    rw [upd_ne (ne_of_none hb h0)]
    exact st.kp' hb z
  · have g := st.lo i k q d e1 e2 e3 e4
    have ne : q ≠ p := fun z => np (by
      rw [← z]
      exact ⟨i, k, d, e1, Kd.own_of e2, (st.lk i k e1 e2).trans e3, (st.pn i k e1 (Kd.pin_of e2)).trans e4⟩)
    show upd w.H p _ q = _
    rw [upd_ne ne]
    exact g
  · have y := (st.o0 e).2 z
    have y2 := hO e
    rw [(st.o0 e).1] at y2
    exact fun q => y (y2.symm.trans q)
  · have y2 := hO e
    rw [(st.o0 e).1] at y2
    exact y2.trans (st.ost e)
end
abbrev MPs := En → Option (List (Key × D) × En)
def mpNil : MPs := fun ρ => some ([], ρ)
def mpCons (mk mv : M) (r : MPs) : MPs := fun ρ => (mk ρ).bind fun p => (dKey p.1).bind fun k => (mv p.2).bind fun q => (r q.2).map fun z => ((k, q.1) :: z.1, z.2)
def mergeD (kvs : List (D × D)) (more : List (Key × D)) : List (D × D) := more.foldl (fun acc kv => putD' kv.1 kv.2 acc) kvs
def mDisp (r : MPs) : M := fun ρ => (r ρ).map fun z => (.dict (mergeD [] z.1), z.2)
inductive RpP (K : PySem.W.Frag) (F : Hp) : List (Key × D) → List (Key × V) → Prop
  | nil : RpP K F [] []
  | cons {k : Key} {d : D} {v : V} {ds : List (Key × D)} {vs : List (Key × V)} : Rp K F d v → RpP K F ds vs → RpP K F ((k, d) :: ds) ((k, v) :: vs)
theorem RpP.mono {K : PySem.W.Frag} {F F' : Hp} (e : Same F F') {ds : List (Key × D)} {vs : List (Key × V)} (h : RpP K F ds vs) : RpP K F' ds vs := by
  induction h with
  | nil => exact .nil
  | cons h1 _ ih => exact .cons (Rp.mono e _ _ h1) ih
theorem RpP.len {K : PySem.W.Frag} {F : Hp} {ds : List (Key × D)} {vs : List (Key × V)} (h : RpP K F ds vs) : vs.length = ds.length := by
  induction h with
  | nil => rfl
  | cons _ _ ih => rw [List.length_cons, List.length_cons, ih]
structure PDs (X : Cx) (O : List Kd) (pos : Pos) (keys : List (Option Expr)) (values : List Expr) (r : MPs) : Prop where
  ex : ∃ trs : List (TE × TE), PPs X pos keys values trs ∧ ∀ (σ : L2.St) (F H : Hp) (ρ : En) (zs : List (Key × D)) (ρ' : En) (Q : List (V × V) → Hp → Prop), Ok X.K O ⟨F, H, σ, ρ⟩ → r ρ = some (zs, ρ') →
    (∀ (vs : List (Key × V)) F' H', Ok X.K O ⟨F', H', σ, ρ'⟩ → Stp O ⟨F, H, σ, ρ⟩ ⟨F', H', σ, ρ'⟩ → RpP X.K F' zs vs → Q (vs.map fun kv => (kV kv.1, kv.2)) H') → tPairs trs σ H Q
section
variable {X : Cx} {O : List Kd} {pos : Pos} {k v : Expr} {ks : List (Option Expr)} {vs : List Expr} {mk mv : M} {r : MPs}
end
structure AccO (K : PySem.W.Frag) (L : List Kd) (w1 : Wd) (Dl : Addr) (w : Wd) (acc : D) : Prop where
  ok : Ok K L w
  st : Stp L w1 w
  at_ : ∃ o, w.H Dl = some o ∧ OwnC K w.F o acc
  nf : w.F Dl = none
  np : ¬ Fp L w Dl
  fr : w1.H Dl = none
  no : hasO L = true → Dl ≠ ob L w.σ
section
variable {K : PySem.W.Frag} {L : List Kd} {w1 w w' : Wd} {Dl : Addr} {acc : D}
theorem AccO.step (a : AccO K L w1 Dl w acc) (ok : Ok K L w') (st : Stp L w w') : AccO K L w1 Dl w' acc := by
  obtain ⟨xs, h1, h2⟩ := a.at_
  exact ⟨ok, a.st.trans st, ⟨xs, h2.kh (st.kp' h1 a.np), h2.mono st.ex⟩, st.nw _ _ h1 a.np a.nf, st.nofp h1 a.np, a.fr, fun e => by rw [(st.o0 e).1]; exact a.no e⟩
theorem AccO.wipe {vs : List Nat} (hv : fzAt L vs = true) (a : AccO K L w1 Dl w acc) : AccO K L w1 Dl ⟨w.F, w.H, wipe w.σ vs, wipeE w.ρ vs⟩ acc :=
  ⟨a.ok.wipe hv, a.st.wipe hv, a.at_, a.nf, fun ⟨i, h⟩ => a.np ⟨i, (own_wipe hv).mp h⟩, a.fr, fun e => by show Dl ≠ ob L (L2.wipe w.σ vs); rw [ob_wipe hv e]; exact a.no e⟩
theorem ownc_own {F : Hp} {o : HO} : ∀ {d : D}, OwnC K F o d → ∀ a, o ≠ .own a
  | .none, h => h.elim
  | .bool _, h => h.elim
  | .int _, h => h.elim
  | .str _, h => h.elim
  | .tuple _, h => h.elim
  | .list _, ⟨_, e, _⟩ => fun a z => by rw [e] at z; cases z
  | .dict _, ⟨_, e, _⟩ => fun a z => by rw [e] at z; cases z
theorem AccO.push {acc' : D} {o' : HO} (a : AccO K L w1 Dl w acc) (r : OwnC K w.F o' acc') : AccO K L w1 Dl ⟨w.F, upd w.H Dl o', w.σ, w.ρ⟩ acc' := by
  obtain ⟨o, h1, h2⟩ := a.at_
  have hO : hasO L = true → upd w.H Dl o' (ob L w.σ) = w.H (ob L w.σ) := fun e => upd_ne fun z => a.no e z.symm
  exact ⟨a.ok.oth h1 a.nf a.np a.no (ownc_own h2) h2.nt, a.st.oth a.ok h1 h2.nt a.fr a.np a.no, ⟨o', upd_same, r⟩, a.nf, fun z => a.np ((fp_same (F := w.F) (H := w.H) hO).mp z), a.fr, a.no⟩
theorem AccO.new {o : HO} {d : D} (ok : Ok K L w) (st : Stp L w1 w) (h : w.H Dl = none) (h1 : w1.H Dl = none) (hc : OwnC K w.F o d) : AccO K L w1 Dl ⟨w.F, upd w.H Dl o, w.σ, w.ρ⟩ d := by
  have pu := Pur.owned (F := w.F) ok.sub h o
  obtain ⟨a, b⟩ := ok.pur pu
  have no : hasO L = true → Dl ≠ ob L w.σ := fun e z => by
    obtain ⟨C, dx, fs, y, _⟩ := (ok.obj e).ex
    rw [z, y] at h
    cases h
  exact ⟨a, st.trans b, ⟨o, upd_same, hc⟩, ok.sub.free h, fun z => (by
    obtain ⟨_, o, q⟩ := ok.ownF (p := Dl) ((fp_same (F := w.F) (H := w.H) b.ost).mp z)
    rw [h] at q
    cases q), h1, no⟩
end
def mDcL : List D → MG → MT → M → M → List Nat → List (D × D) → En → Option (List (D × D) × En)
  | [], _, _, _, _, _, acc, ρ => some (acc, ρ)
  | d :: ds, g, t, mk, e, vs, acc, ρ => (g d (wipeE ρ vs)).bind fun ρ1 => (t ρ1).bind fun p => if p.1 = true then (mk p.2).bind fun y => (dKey y.1).bind fun k => (e y.2).bind fun q => if acc.length < 1000000 then mDcL ds g t mk e vs (putD' k q.1 acc) q.2 else none
      else mDcL ds g t mk e vs acc p.2
def mDc (mi : MI) (g : MG) (t : MT) (mk e : M) (vs : List Nat) : M := fun ρ => (mi ρ).bind fun p => (mDcL p.1 g t mk e vs [] p.2).map fun q => (.dict q.1, restE p.2 vs q.2)
section
variable {K : PySem.W.Frag} {O L : List Kd} {g : MG} {t : MT} {mk e : M} {vs is : List Nat} {σ : L2.St} {H : Hp} {Q : VK} {mi : MI}
end
section
variable {X : Cx} {O L : List Kd} {kx vx tg iter : Expr} {ifs : List Expr} {scope : Scope} {own : List (Str × Nat)} {pos spos : Pos} {mi : MI} {g : MG} {is : List Nat} {t : MT} {mk e : M}
end
def isOb : HO → Bool
  | .ins _ _ _ => true
  | .own _ => true
  | .ext _ => true
  | _ => false
def RdLe (F F' : Hp) : Prop := (∀ b o, (∀ x y, o ≠ .frz x y) → Rd F b o → Rd F' b o) ∧ ∀ b o, isOb o = true → F b = some o → F' b = some o
theorem RdLe.sqt {K : PySem.W.Frag} {F F' : Hp} (e : RdLe F F') {a : Addr} {xs : List V} (h : SqT K F a xs) : SqT K F' a xs := by
  rcases h with h | h
  · exact .inl (e.1 _ _ (fun _ _ z => by cases z) h)
  · exact .inr h
theorem RdLe.sql {K : PySem.W.Frag} {F F' : Hp} (e : RdLe F F') {a : Addr} {xs : List V} (h : SqL K F a xs) : SqL K F' a xs := by
  rcases h with h | h
  · exact .inl (e.1 _ _ (fun _ _ z => by cases z) h)
  · exact .inr h
theorem FnR.le {K : PySem.W.Frag} {F F' : Hp} (e : RdLe F F') {n : Int} {f : Addr} {cl : List (Str × Addr)} (h : FnR K F n f cl) : FnR K F' n f cl := by
  rcases h with ⟨h0, ps, b, sc, pm, c', ctv, h1, h2, h3, h4⟩ | h
  · exact .inl ⟨h0, ps, b, sc, pm, c', ctv, h1, e.2 _ _ rfl h2, e.2 _ _ rfl h3, h4⟩
  · exact .inr h
mutual
theorem Rp.le {K : PySem.W.Frag} {F F' : Hp} (e : RdLe F F') : ∀ (d : D) (v : V), Rp K F d v → Rp K F' d v
  | .none, _, h => h
  | .bool _, _, h => h
  | .int _, _, h => h
  | .str _, _, h => h
  | .list ds, _, h => by
    obtain ⟨a, xs, h1, h2, h3⟩ := h
    exact ⟨a, xs, h1, e.sql h2, RpA.le e ds xs h3⟩
  | .tuple ds, _, h => by
    obtain ⟨a, xs, h1, h2, h3⟩ := h
    exact ⟨a, xs, h1, e.sqt h2, RpA.le e ds xs h3⟩
  | .dict kvs, v, h => by
    rcases h with ⟨a, vs, h1, h2, h3⟩ | h
    · exact .inl ⟨a, vs, h1, e.1 _ _ (fun _ _ z => by cases z) h2, RpD.le e kvs vs h3⟩
    · exact .inr (RpO.le e kvs v h)
theorem RpO.le {K : PySem.W.Frag} {F F' : Hp} (e : RdLe F F') : ∀ (r : List (D × D)) (v : V), RpO K F r v → RpO K F' r v
  | [], _, h => h
  | (k, d) :: r, v, h => by
    obtain ⟨h0, ⟨c, x, dx, fs, h1, h2, h3, h5, h6⟩ | ⟨n, f, cl, h1, h2, h3, h4⟩⟩ := h
    · exact ⟨h0, .inl ⟨c, x, dx, fs, h1, h2, e.2 _ _ rfl h3, RpF.le e r fs h5, h6⟩⟩
    · exact ⟨h0, .inr ⟨n, f, cl, h1, h2, h3.le e, RpC.le e r cl h4⟩⟩
theorem RpC.le {K : PySem.W.Frag} {F F' : Hp} (e : RdLe F F') : ∀ (r : List (D × D)) (cl : List (Str × Addr)), RpC K F r cl → RpC K F' r cl
  | [], _, h => h
  | (k, d) :: r, cl, h => by
    obtain ⟨y, c, o, u, v, cr, h1, h2, h3, h4, h5, h6, h7⟩ := h
    exact ⟨y, c, o, u, v, cr, h1, h2, e.2 _ _ rfl h3, h4, h5, Rp.le e d v h6, RpC.le e r cr h7⟩
theorem RpF.le {K : PySem.W.Frag} {F F' : Hp} (e : RdLe F F') : ∀ (r : List (D × D)) (fs : List (Str × V)), RpF K F r fs → RpF K F' r fs
  | [], _, h => h
  | (k, d) :: r, fs, h => by
    obtain ⟨⟨s, v, h1, h2, h3⟩, h4⟩ := h
    exact ⟨⟨s, v, h1, h2, Rp.le e d v h3⟩, RpF.le e r fs h4⟩
theorem RpA.le {K : PySem.W.Frag} {F F' : Hp} (e : RdLe F F') : ∀ (ds : List D) (vs : List V), RpA K F ds vs → RpA K F' ds vs
  | [], _, h => h
  | d :: ds, _, h => by
    obtain ⟨v, vs, h1, h2, h3⟩ := h
    exact ⟨v, vs, h1, Rp.le e d v h2, RpA.le e ds vs h3⟩
theorem RpD.le {K : PySem.W.Frag} {F F' : Hp} (e : RdLe F F') : ∀ (ds : List (D × D)) (vs : List (Key × V)), RpD K F ds vs → RpD K F' ds vs
  | [], _, h => h
  | (k, d) :: r, _, h => by
    obtain ⟨q, v, vr, h1, h2, h3, h4⟩ := h
    exact ⟨q, v, vr, h1, h2, Rp.le e d v h3, RpD.le e r vr h4⟩
end
theorem OwnC.le {K : PySem.W.Frag} {F F' : Hp} (e : RdLe F F') {o : HO} : ∀ {d : D}, OwnC K F o d → OwnC K F' o d
  | .none, h => h
  | .bool _, h => h
  | .int _, h => h
  | .str _, h => h
  | .tuple _, h => h
  | .list ds, ⟨xs, h1, h2⟩ => ⟨xs, h1, RpA.le e _ _ h2⟩
  | .dict kvs, ⟨xs, h1, h2⟩ => ⟨xs, h1, RpD.le e _ _ h2⟩
section
variable {K : PySem.W.Frag} {O : List Kd} {w : Wd} {a : Addr} {u u' : HO}
theorem Ok.swp (ok : Ok K O w) (h : w.F a = some u) (le : RdLe w.F (upd w.F a u')) (hn : ∀ b, u ≠ .own b) (nt : (∀ ps, u ≠ .tbl ps) ∧ ∀ φ, u ≠ .ext φ) : Ok K O ⟨upd w.F a u', upd w.H a u', w.σ, w.ρ⟩ := by
  have hH : w.H a = some u := ok.sub a u h
  have no : hasO O = true → a ≠ ob O w.σ := fun e z => by
    have := (ok.obj e).fr
    rw [← z, h] at this
    cases this
  have hO : hasO O = true → upd w.H a u' (ob O w.σ) = w.H (ob O w.σ) := fun e => upd_ne fun z => no e z.symm
  have hsv : ∀ j, sv O (upd w.H a u') w.σ j = w.sv O j := fun j => sv_same hO
  have hat : ∀ {i : Nat} {b : Addr}, OwnAt O ⟨upd w.F a u', upd w.H a u', w.σ, w.ρ⟩ i b ↔ OwnAt O w i b := own_same hO
  refine ⟨fun b o hb => ?_, ok.ls, ok.lr, fun i d e1 e2 => ?_, fun i k d e1 e2 e3 => ?_, fun i j q e1 e2 => ok.ap i j q (hat.mp e1) (hat.mp e2), fun e => ?_, fun P hP => ⟨tab_put hH nt (ok.tb P hP).1, by
    show upd w.F a u' P = none
    rw [upd_ne fun z => ?_]
    · exact (ok.tb P hP).2
    · have y := (ok.tb P hP).2
      rw [z, h] at y
      cases y⟩⟩
  · by_cases z : b = a
    · rw [z] at hb ⊢
      have hb : upd w.F a u' a = some o := hb
      show upd w.H a u' a = some o
      rw [upd_same] at hb ⊢
      exact hb
    · have hb : upd w.F a u' b = some o := hb
      show upd w.H a u' b = some o
      rw [upd_ne z] at hb ⊢
      exact ok.sub b o hb
  · obtain ⟨v, g1, g2⟩ := ok.fz i d e1 e2
    exact ⟨v, (hsv i).trans g1, Rp.le le _ _ g2⟩
  · obtain ⟨q, g1, g2, o, g3, g4⟩ := ok.ow i k d e1 e2 e3
    have ne : q ≠ a := fun z => by
      rw [z, h] at g2
      cases g2
    exact ⟨q, (hsv i).trans g1, by show upd w.F a u' q = none; rw [upd_ne ne]; exact g2, o, by show upd w.H a u' q = some o; rw [upd_ne ne]; exact g3, g4.le le⟩
  · obtain ⟨a0, a1, ⟨C, dx, fs, a2, a3⟩, a4, a5, a6⟩ := ok.obj e
    have hd : dx ≠ a := fun z => by
      rw [z, hH] at a3
      cases a3
      exact hn _ rfl
    exact ⟨a0, a1, ⟨C, dx, fs, (hO e).trans a2, by show upd w.H a u' dx = _; rw [upd_ne hd]; exact a3⟩, by show upd w.F a u' _ = none; rw [upd_ne fun z => no e z.symm]; exact a4, fun ⟨i, z⟩ => a5 ⟨i, hat.mp z⟩, fun C dx fs z => a6 C dx fs ((hO e).symm.trans z)⟩
end
section
variable {X : Cx} {O L : List Kd} {e tg : Expr} {m : M} {k : Ak}
theorem RpD.keys {K : PySem.W.Frag} {F : Hp} : ∀ {kvs : List (D × D)} {vs : List (Key × V)}, RpD K F kvs vs → kvs.map (·.1) = vs.map fun kv => kD kv.1
  | [], _, h => by
    rw [show _ = [] from h]
    rfl
  | (_, _) :: r, _, ⟨q, v, vr, e, e2, h1, h⟩ => by
    subst e e2
    rw [List.map_cons, List.map_cons, RpD.keys h]
end
section
variable {K : PySem.W.Frag} {O L : List Kd} {i : Nat} {g : MG} {t : MT} {e : M} {vs is : List Nat} {σ : L2.St} {H : Hp} {Q : VK} {mi : MI}
end
section
variable {X : Cx} {O L : List Kd} {elt tg iter : Expr} {ifs : List Expr} {scope : Scope} {own : List (Str × Nat)} {pos : Pos} {g : MG} {is : List Nat} {t : MT} {e : M}
end
section
open PySem.W PySem.Calls
variable {prog : Program} {w : World} {A : Around} {E : Value → Shared → Prop} {s : Shared}
end
section
variable {X : Cx} {e : Expr} {es : List Expr} {t : TG} {u : TGs} {p pos : Pos}
end
def tGH (K : PySem.W.Frag) (O : List Kd) (g : MG) : TG := fun v σ H Q => ∃ F ρ d ρ', Ok K O ⟨F, H, σ, ρ⟩ ∧ Rp K F d v ∧ g d ρ = some ρ' ∧
  ∀ σ' F' H', Ok K O ⟨F', H', σ', ρ'⟩ → StpS O ⟨F, H, σ, ρ⟩ ⟨F', H', σ', ρ'⟩ → Q σ' H'
def tGsH (K : PySem.W.Frag) (O : List Kd) (g : List D → En → Option En) : TGs := fun vs σ H Q => ∃ F ρ ds ρ', Ok K O ⟨F, H, σ, ρ⟩ ∧ RpA K F ds vs ∧ g ds ρ = some ρ' ∧
  ∀ σ' F' H', Ok K O ⟨F', H', σ', ρ'⟩ → StpS O ⟨F, H, σ, ρ⟩ ⟨F', H', σ', ρ'⟩ → Q σ' H'
def mgIx (i : Nat) (mi : M) : MG := fun d ρ => (mBr i ρ).bind fun _ => (mi ρ).bind fun q => match q.1, q.2[i]? with
  | .int j, some (some (.list ds)) => (ixN ds.length j).map fun n => q.2.set i (some (.list (ds.set n d)))
  | _, _ => none
section
variable {X : Cx} {O : List Kd} {e o ix : Expr} {es : List Expr} {p pos spos : Pos} {g : MG} {gs : List D → En → Option En} {is : List Nat} {m mi : M} {r : Ak}
theorem gsH_nil : PGs X [] (tGsH X.K O mgNil) := by
  refine PGsi pgs_nil fun v σ H Q ⟨F, ρ, ds, ρ', ok, r, hg, k⟩ => ?_
  cases ds with
  | nil =>
    cases hg
    exact ⟨r, k σ F H ok (StpS.refl _ _)⟩
  | cons d ds => cases hg
theorem gsH_core {vs : List V} {σ : L2.St} {H : Hp} {Q : L2.St → Hp → Prop} (h : tGsH X.K O (mgCons g gs) vs σ H Q) : gCons (tGH X.K O g) (tGsH X.K O gs) vs σ H Q := by
  obtain ⟨F, ρ, ds, ρ', ok, r, hg, k⟩ := h
  cases ds with
  | nil => cases hg
  | cons d ds =>
    obtain ⟨v1, vs, e1, r1, r2⟩ := r
    obtain ⟨ρ1, g1, g2⟩ := bind_some hg
    exact ⟨v1, vs, e1, F, ρ, d, ρ1, ok, r1, g1, fun σ1 F1 H1 ok1 st1 => ⟨F1, ρ1, ds, ρ', ok1, r2.mono st1.ex, g2, fun σ2 F2 H2 ok2 st2 => k σ2 F2 H2 ok2 (st1.trans st2)⟩⟩
theorem gsH_cons (h1 : PG X e (tGH X.K O g)) (h2 : PGs X es (tGsH X.K O gs)) (hs : (assignEach (e :: es) X.env).map (·.2) = assign e X.env :: (assignEach es X.env).map (·.2) := by rfl) : PGs X (e :: es) (tGsH X.K O (mgCons g gs)) :=
  PGsi (pgs_cons h1 h2 hs) fun _ _ _ _ h => gsH_core h
theorem gH_tup {n c : Nat} (hc : X.calm = true) (h : PGs X es (tGsH X.K O gs)) (hn : (assignEach es X.env).length = n := by rfl) (hst : (assignEach es X.env).findIdx? (·.1) = none := by rfl) : PG X (.Tuple es c pos) (tGH X.K O (mgT n gs)) := by
  refine PGi (pg_tup hc h hn hst) fun v σ H Q ⟨F, ρ, d, ρ', ok, r, hg, k⟩ => ?_
  unfold mgT at hg
  split at hg
  · rename_i ds
    split at hg
    · rename_i hl
      obtain ⟨a, xs, e1, h1, h2⟩ := r
      exact ⟨a, xs, e1, same_sqt ok.sub h1, by rw [h2.length]; exact hl, F, ρ, ds, ρ', ok, h2, hg, k⟩
    · cases hg
  · cases hg
theorem gH_ix (i : Nat) (ho : PE X o (tE X.K O (mBr i) (.br i))) (hi : PE X ix (tE X.K O mi .fz)) (hO : mutK O[i]? = true := by rfl)
    (ha : ∀ v, assign (.Subscript o ix spos) X.env v = (do
      let ov ← holding [v] (eval o X.env)
      let iv ← holding [v, ov] (eval ix X.env)
      standAt spos
      holding [v, ov, iv] (setItem ov iv v)
      release [v, ov, iv] []) := by intro _; rfl) : PG X (.Subscript o ix spos) (tGH X.K O (mgIx i mi)) := by
  refine PGi (pg_sub ho hi set_list ha) fun v σ H Q ⟨F, ρ, d, ρ', ok, r1, hg, q⟩ => ?_
  obtain ⟨⟨d2, ρ2⟩, e3, e4⟩ := bind_some hg
  obtain ⟨⟨d3, ρ3⟩, e5, e6⟩ := bind_some e4
  dsimp only at e5 e6
  split at e6
  · rename_i _ _ j ds g2
    obtain ⟨n, g3, g4⟩ := map_some e6
    cases g4
    have hρ : ρ2 = ρ := by
      obtain ⟨_, _, z⟩ := slot_some e3
      cases z
      rfl
    subst hρ
    refine ⟨F, ρ2, d2, ρ2, ok, e3, fun o F2 H2 ok2 st2 r2 => ?_⟩
    refine ⟨F2, ρ2, _, ρ3, ok2, e5, fun iv F3 H3 ok3 st3 r3 => ?_⟩
    have go := st2.trans st3
    obtain ⟨r2, k0, k1, k2⟩ := r2.step st3 rfl
    obtain ⟨pp, y1, y2, oo, y3, xs, y4, y5⟩ := ok3.ow i k0 _ k1 k2 g2
    rw [y1] at r2
    cases r2
    subst y4
    have r3 : iv = .int j := r3
    subst r3
    have rv : Rp X.K F3 d v := Rp.mono go.ex _ _ r1
    refine ⟨pp, xs, j, n, rfl, rfl, y3, by rw [y5.length]; exact g3, ?_⟩
    have kl : k0.lock = false := by
      rw [k1] at hO
      cases k0 <;> first | rfl | cases hO
    obtain ⟨z1, z2⟩ := ok3.chg (o := .lst (xs.set n v)) (d := .list (ds.set n d)) k1 k2 kl g2 y1 y2 ⟨_, rfl, y5.set rv n⟩
    exact q σ F3 _ z1 (go.trans z2).toStpS
  · cases e6
theorem s_asgH {tg : Expr} (he : PE X e (tE X.K O m .fz)) (hg : PG X tg (tGH X.K O g)) (hs : swapsWithSole [tg] e pos.line X.env = pure false := by rfl) (hw : swappedStores [tg] e X.env = pure none := by rfl)
    (h1 : (assignEach [tg] X.env).map (·.2) = [assign tg X.env] := by rfl) : PS X (.Assign [tg] e pos) (tS X.K O (mAsg g m) r) := by
  refine PSi (ps_asg he hg hs hw h1) fun Dn σ H ⟨F, ρ, fl, ρ', ok, hm, q⟩ => ?_
  obtain ⟨⟨d, ρ1⟩, e1, e2⟩ := bind_some hm
  obtain ⟨ρ2, e3, e4⟩ := map_some e2
  cases e4
  exact ⟨F, ρ, d, ρ1, ok, e1, fun v F1 H1 ok1 st1 r1 => ⟨F1, ρ1, d, ρ', ok1, r1, e3, fun σ2 F2 H2 ok2 st2 => q σ2 F2 H2 ok2 (st1.toStpS.trans st2)⟩⟩
end
open PySem PySem.Spec PyProof.Rows L2
structure GC (K : PySem.W.Frag) (mg : Str → Option Value) (x : Str) (d : D) : Prop where
  ex : ∃ (u : Value) (v : V), mg x = some u ∧ RelV v u ∧ ∀ F : Hp, Rp K F d v
def lkD (z : Str) : List (Str × D) → Option D
  | [] => none
  | (k, d) :: r => if k = z then some d else lkD z r
structure GD (K : PySem.W.Frag) (w : World) (mg : Str → Option Value) (x : Str) (kvs : List (Str × D)) : Prop where
  ex : ∃ (a : Addr) (es : Array DictEntry) (n : Nat), mg x = some (.ref a) ∧ KDict K w a es n ∧ ∀ z, (lkD z kvs = none ∧ PySem.W.nsIn K a z = some none) ∨ ∃ d u v, lkD z kvs = some d ∧ PySem.W.nsIn K a z = some (some u) ∧ RelV v u ∧ ∀ F : Hp, Rp K F d v
def dKin (neg : Bool) (kvs : List (Str × D)) : List D → Option D
  | [.str z] => some (.bool (if neg then !(lkD z kvs).isSome else (lkD z kvs).isSome))
  | _ => none
section
variable {X : Cx} {O : List Kd} {x : Str} {p pos : Pos} {kvs : List (Str × D)} {e : Expr} {ka : Ak} {m : M} {σ : L2.St} {H : Hp} {Q : VK}
end
def dEqE : List D → Option D
  | [.dict a, .dict b] => if a.length ≠ b.length ∨ a.length = 0 then gob a (gob b (some (.bool (decide (a.length = b.length))))) else none
  | _ => none
def dNeE : List D → Option D
  | [.dict a, .dict b] => if a.length ≠ b.length ∨ a.length = 0 then gob a (gob b (some (.bool (!decide (a.length = b.length))))) else none
  | _ => none
def rEqE (neg : Bool) : R2 := fun x y H Q => ∃ a b ks ls, x = .ref a ∧ y = .ref b ∧ Rd H a (.dK ks) ∧ Rd H b (.dK ls) ∧ (ks.length ≠ ls.length ∨ ks.length = 0) ∧ Q (.bl (if neg then !decide (ks.length = ls.length) else decide (ks.length = ls.length))) H
section
variable {X : Cx}
theorem keqE {K : Type} [DecidableEq K] {A : Around} {s : Shared} {va vb : List (K × Value)} (h : va.length ≠ vb.length ∨ va.length = 0) : va.length = vb.length → PySem.W.KeqHits A s vb va true := fun e => by
  rcases h with h | h
  · exact (h e).elim
  · rw [List.length_eq_zero_iff.mp h]
    exact .nil
theorem op_eqE (hu : X.A.units + 64 < cLine) : OpR X (compareOp .Eq) (rEqE false) := by
  intro pins s σ H x y v u Q I rx ry h
  obtain ⟨a, b, ks, ls, rfl, rfl, ea, eb, hc, q⟩ := h
  obtain rfl : v = Value.ref a := rx
  obtain rfl : u = Value.ref b := ry
  obtain ⟨_, ya, va, ra, da⟩ := dk_rd I.hok ea
  obtain ⟨_, yb, vb, rb, db⟩ := dk_rd I.hok eb
  have la : ks.length = va.length := Paired.length ra
  have lb : ls.length = vb.length := Paired.length rb
  rw [la, lb] at hc
  exact PySem.W.keq_eq (knd := mixKind X.prog X.w) (r := true) ya yb da db (by omega) (keqE hc) (fin_bl I q (by rw [la, lb, Bool.and_true]; exact (Bool.beq_eq_decide_eq _ _).symm))
theorem op_neE (hu : X.A.units + 64 < cLine) : OpR X (compareOp .NotEq) (rEqE true) := by
  intro pins s σ H x y v u Q I rx ry h
  obtain ⟨a, b, ks, ls, rfl, rfl, ea, eb, hc, q⟩ := h
  obtain rfl : v = Value.ref a := rx
  obtain rfl : u = Value.ref b := ry
  obtain ⟨_, ya, va, ra, da⟩ := dk_rd I.hok ea
  obtain ⟨_, yb, vb, rb, db⟩ := dk_rd I.hok eb
  have la : ks.length = va.length := Paired.length ra
  have lb : ls.length = vb.length := Paired.length rb
  rw [la, lb] at hc
  exact PySem.W.keq_ne (knd := mixKind X.prog X.w) (r := true) ya yb da db (by omega) (keqE hc) (fin_bl I q (by rw [la, lb, Bool.and_true]; exact congrArg not (Bool.beq_eq_decide_eq _ _).symm))
end
section
variable {K : PySem.W.Frag}
theorem s_eqE : LSem K (rL2 (rEqE false)) dEqE .fz := by
  intro F H ds vs d Q s hv ho q
  unfold dEqE at ho
  split at ho
  · rename_i a b
    split at ho
    · rename_i h
      obtain ⟨n1, ho⟩ := gob_some ho
      obtain ⟨n2, ho⟩ := gob_some ho
      cases ho
      obtain ⟨v, u, rfl, h1, h2⟩ := hv.two
      obtain ⟨p, xs, rfl, p1, p2⟩ := vw_dict n1 h1
      obtain ⟨r, ys, rfl, r1, r2⟩ := vw_dict n2 h2
      rw [← p2.length, ← r2.length] at h
      refine ⟨_, _, rfl, p, r, xs, ys, rfl, rfl, p1, r1, h, q.now s ?_⟩
      rw [p2.length, r2.length]
      rfl
    · cases ho
  · cases ho
theorem s_neE : LSem K (rL2 (rEqE true)) dNeE .fz := by
  intro F H ds vs d Q s hv ho q
  unfold dNeE at ho
  split at ho
  · rename_i a b
    split at ho
    · rename_i h
      obtain ⟨n1, ho⟩ := gob_some ho
      obtain ⟨n2, ho⟩ := gob_some ho
      cases ho
      obtain ⟨v, u, rfl, h1, h2⟩ := hv.two
      obtain ⟨p, xs, rfl, p1, p2⟩ := vw_dict n1 h1
      obtain ⟨r, ys, rfl, r1, r2⟩ := vw_dict n2 h2
      rw [← p2.length, ← r2.length] at h
      refine ⟨_, _, rfl, p, r, xs, ys, rfl, rfl, p1, r1, h, q.now s ?_⟩
      rw [p2.length, r2.length]
      rfl
    · cases ho
  · cases ho
end
section
variable {X : Cx} {CX : CXT} {k : Nat} {f : Addr} {fd : FuncData} {ps : List Str} {sp : Sp} {E : XK}
end
section
variable {X : Cx} {O Oi : List Kd} {b : Bool} {k j : Nat} {ps : List Str} {mf : En → Option (D × En)} {x : Str} {p p2 pos : Pos}
end
section
variable {X : Cx} {r r' : R2} {f : Value → Value → Sem Value}
theorem orO (h : OpR X f r) (h' : OpR X f r') : OpR X f (fun x y H Q => r x y H Q ∨ r' x y H Q) := fun pins s σ H x y v u Q I rx ry q => q.elim (h pins s σ H x y v u Q I rx ry) (h' pins s σ H x y v u Q I rx ry)
theorem orIx (h : IxR X r) (h' : IxR X r') : IxR X (fun x y H Q => r x y H Q ∨ r' x y H Q) := fun a b pins s σ H x y v u Q I rx ry q => q.elim (h a b pins s σ H x y v u Q I rx ry) (h' a b pins s σ H x y v u Q I rx ry)
theorem ix_dget (hu : X.A.units + 65 < cLine) : IxR X rDGet := by
  intro value slice pins s σ H x y v u Q I rx ry h hs
  obtain ⟨a, v0, ex, g, q⟩ := h
  subst ex
  obtain rfl : v = Value.ref a := rx
  exact PyProof.Rows.tail_any (dict_typeIs I g) PySem.F.slot_dict_getitem.lookup (d_getItem (by omega) I g ry fun w' s3 I3 rw' => ⟨v0, H, I3, rw', q⟩) hs
theorem op_dninO (hu : X.A.units + 65 < cLine) : OpR X (compareOp .NotIn) (rDIn true) := by
  intro pins s σ H y x iv u Q I ry rx h
  obtain ⟨a, o, ex, g, q⟩ := h
  subst ex
  obtain rfl : u = Value.ref a := rx
  exact d_notIn (by omega) I g ry fun s3 I3 => ⟨.bl (!o.isSome), H, I3, rfl, q⟩
end
def orD (f g : List D → Option D) : List D → Option D := fun ds => match f ds with
  | some z => some z
  | none => g ds
section
variable {K : PySem.W.Frag} {f g : List D → Option D} {k : Ak}
theorem s_or {r r' : List V → Hp → VK → Prop} (h : LSem K r f k) (h' : LSem K r' g k) : LSem K (fun vs H Q => r vs H Q ∨ r' vs H Q) (orD f g) k := by
  intro F H ds vs d Q s hv ho q
  unfold orD at ho
  split at ho
  · rename_i z e
    cases ho
    exact .inl (h F H ds vs _ Q s hv e q)
  · exact .inr (h' F H ds vs _ Q s hv ho q)
theorem s_or2 {r r' : R2} (h : LSem K (rL2 r) f k) (h' : LSem K (rL2 r') g k) : LSem K (rL2 fun x y H Q => r x y H Q ∨ r' x y H Q) (orD f g) k := by
  intro F H ds vs d Q s hv ho q
  rcases s_or h h' F H ds vs d Q s hv ho q with ⟨x, y, e, z⟩ | ⟨x, y, e, z⟩
  · exact ⟨x, y, e, .inl z⟩
  · exact ⟨x, y, e, .inr z⟩
theorem Post.frz {F H : Hp} {d : D} {Q : VK} (s : Same F H) (q : Post K F H .fz d Q) : Post K F H .ow d Q := fun v F' H' pu r => by
  obtain ⟨p, rfl, h1, ⟨o, h2, h3⟩, h4⟩ := r
  have e' : Same F' (upd F' p o) := fun b u hb => by
    rw [upd_ne (ne_of_none hb h1)]
    exact hb
  refine q (.ref p) (upd F' p o) H' ⟨pu.ex.trans e', pu.hh, fun b u hb => ?_, fun b u hb f => ?_⟩ ((h3.mono e').rp upd_same)
  · by_cases e : b = p
    · subst e
      rw [upd_same] at hb
      cases hb
      exact h2
    · rw [upd_ne e] at hb
      exact pu.sub b u hb
  · rw [upd_ne (ne_of_none hb h4)]
    exact pu.nw b u hb f
theorem s_frz {r : List V → Hp → VK → Prop} (h : LSem K r f .ow) : LSem K r f .fz := fun F H ds vs d Q s hv ho q => h F H ds vs d Q s hv ho (q.frz s)
end
def dIxU := orD dIx dDget
section
variable {X : Cx} {O L : List Kd} {a b e : Expr} {ka kb : Ak} {m mb : M} {pos p : Pos}
theorem e_ixU (hu : X.A.units + 65 < cLine) (ha : PE X a (tE X.K O m ka)) (hb : PE X b (tE X.K O mb kb)) (hs : PlainIx b := by exact fun _ _ => rfl) : PE X (.Subscript a b pos) (tE X.K O (m2 ka kb m mb dIxU) .fz) :=
  PEi (pe_ix (orIx ix_seq (ix_dget hu)) ha hb hs) fun _ _ _ h => tOp_of (s_or2 s_ix s_dget) h
def dInD (neg : Bool) : List D → Option D
  | [d, .list ds] => if (eqOk d && eqOk (.list ds)) = true then some (.bool (if neg then !ds.any (fun z => PyData.eqv z d) else ds.any fun z => PyData.eqv z d)) else none
  | _ => none
theorem s_ninDD {K : PySem.W.Frag} : LSem K (rL2 (rNotInD K)) (dInD true) .fz := by
  intro F H ds vs d Q s hv ho q
  unfold dInD at ho
  split at ho
  · rename_i a bs
    split at ho
    · rename_i h
      cases ho
      obtain ⟨v, u, e, h1, h2⟩ := hv.two
      obtain ⟨ha, hb⟩ := Bool.and_eq_true_iff.mp h
      obtain ⟨a1, a2⟩ := eqOk_of ha
      obtain ⟨b1, b2⟩ := eqOk_of hb
      exact ⟨v, u, e, a, bs, h1.dp s a2, h2.dp s b2, a1, b1, q.now s rfl⟩
    · cases ho
  · cases ho
def dInU := orD dIn (orD (dDin false) (dInD false))
def dNinU := orD dNin (orD (dDin true) (dInD true))
theorem e_nin (hu : X.A.units + 65 < cLine) (ha : PE X a (tE X.K O m ka)) (hb : PE X b (tE X.K O mb kb)) (hm : behindInMarks .NotIn b = false := by first | exact nomark _ | exact nobehind _ (by decide) (by decide) | rfl | with_unfolding_all rfl) : PE X (.Compare a [.NotIn] [b] pos) (tE X.K O (m2 ka kb m mb dNinU) .fz) :=
  PEi (pe_cmpR (orO op_ninA (orO (op_dninO hu) (op_notInD hu))) ha hb hm) fun _ _ _ h => tOp_of (s_or2 s_nin (s_or2 s_din s_ninDD)) h
theorem t_nin (hu : X.A.units + 65 < cLine) (ha : PE X a (tE X.K O m ka)) (hb : PE X b (tE X.K O mb kb)) (hm : behindInMarks .NotIn b = false := by first | exact nomark _ | exact nobehind _ (by decide) (by decide) | rfl | with_unfolding_all rfl) : PT X (.Compare a [.NotIn] [b] pos) (tT X.K O (mTr (m2 ka kb m mb dNinU))) :=
  PTi (pt_cmpR (orO op_ninA (orO (op_dninO hu) (op_notInD hu))) ha hb hm) fun _ _ _ h => tOp_of (s_or2 s_nin (s_or2 s_din s_ninDD)) (tTr h)
def dEqU := orD dEq dEqE
def dNeU := orD dNe dNeE
theorem e_eq (hu : X.A.units + 65 < cLine) (ha : PE X a (tE X.K O m ka)) (hb : PE X b (tE X.K O mb kb)) (hm : behindInMarks .Eq b = false := by first | exact nomark _ | rfl | with_unfolding_all rfl) : PE X (.Compare a [.Eq] [b] pos) (tE X.K O (m2 ka kb m mb dEqU) .fz) :=
  PEi (pe_cmpR (orO (op_eqD (by omega)) (op_eqE (by omega))) ha hb hm) fun _ _ _ h => tOp_of (s_or2 s_eq s_eqE) h
theorem t_eq (hu : X.A.units + 65 < cLine) (ha : PE X a (tE X.K O m ka)) (hb : PE X b (tE X.K O mb kb)) (hm : behindInMarks .Eq b = false := by first | exact nomark _ | rfl | with_unfolding_all rfl) : PT X (.Compare a [.Eq] [b] pos) (tT X.K O (mTr (m2 ka kb m mb dEqU))) :=
  PTi (pt_cmpR (orO (op_eqD (by omega)) (op_eqE (by omega))) ha hb hm) fun _ _ _ h => tOp_of (s_or2 s_eq s_eqE) (tTr h)
theorem t_ne (hu : X.A.units + 65 < cLine) (ha : PE X a (tE X.K O m ka)) (hb : PE X b (tE X.K O mb kb)) (hm : behindInMarks .NotEq b = false := by first | exact nomark _ | rfl | with_unfolding_all rfl) : PT X (.Compare a [.NotEq] [b] pos) (tT X.K O (mTr (m2 ka kb m mb dNeU))) :=
  PTi (pt_cmpR (orO (op_neD (by omega)) (op_neE (by omega))) ha hb hm) fun _ _ _ h => tOp_of (s_or2 s_ne s_neE) (tTr h)
def dAddU := orD dAdd (orD dCat (orD dCatT dAddS))
theorem e_add (ha : PE X a (tE X.K O m ka)) (hb : PE X b (tE X.K O mb kb)) : PE X (.BinOp a .Add b pos) (tE X.K O (m2 ka kb m mb dAddU) .fz) :=
  PEi (pe_op (orO op_add (orO op_catS (orO op_catA op_add_str))) ha hb) fun _ _ _ h => tOp_of (s_or2 s_add (s_or2 (s_frz s_cat) (s_or2 s_catT s_addS))) h
def dRep : List D → Option D
  | [.list xs, .int k] => if -(2 ^ 63) ≤ k ∧ k < 2 ^ 63 ∧ xs.length * k.toNat ≤ 1000000 then some (.list (List.replicate k.toNat xs).flatten) else none
  | _ => none
def mRep (m mb : M) : M := fun ρ => (m ρ).bind fun p => (mb p.2).bind fun q => (dRep [p.1, q.1]).map fun d => (d, q.2)
theorem RpA.rep {K : PySem.W.Frag} {F : Hp} {ds : List D} {vs : List V} (h : RpA K F ds vs) : ∀ k : Nat, RpA K F (List.replicate k ds).flatten (List.replicate k vs).flatten
  | 0 => rfl
  | k + 1 => by
    rw [List.replicate_succ, List.replicate_succ, List.flatten_cons, List.flatten_cons]
    exact h.append (RpA.rep h k)
theorem e_rep (ha : PE X a (tE X.K O m .ow)) (hb : PE X b (tE X.K O mb .fz)) : PE X (.BinOp a .Mult b pos) (tE X.K O (mRep m mb) .ow) := by
  refine PEi (pe_op op_rep ha hb) fun σ H Q ⟨F, ρ, d, ρ', ok, hm, q⟩ => ?_
  obtain ⟨⟨d1, ρ1⟩, e1, e2⟩ := bind_some hm
  obtain ⟨⟨d2, ρ2⟩, e3, e4⟩ := bind_some e2
  obtain ⟨z, e5, e6⟩ := map_some e4
  cases e6
  refine ⟨F, ρ, d1, ρ1, ok, e1, fun v F1 H1 ok1 st1 r1 => ⟨F1, ρ1, d2, ρ2, ok1, e3, fun u F2 H2 ok2 st2 r2 => ?_⟩⟩
  dsimp only at e5
  unfold dRep at e5
  split at e5
  · rename_i xs k he
    injection he with he1 he2
    injection he2 with he2 _
    subst he1 he2
    split at e5
    · rename_i hk
      cases e5
      obtain ⟨p, rfl, g1, ⟨o, g2, ys, g3, g4⟩, g5, g6, g7⟩ := r1.step st2 rfl
      subst g3
      have r2 : u = .int k := r2
      subst r2
      refine ⟨p, k, ys, rfl, rfl, g2, hk.1, hk.2.1, by rw [g4.length]; exact Nat.le_trans hk.2.2 (by decide), Post.lst (K := X.K) ok2.sub (fun v F3 H3 pu r3 => ?_) (g4.rep k.toNat)⟩
      obtain ⟨ok3, st3⟩ := ok2.pur pu
      exact q v F3 H3 ok3 ((st1.trans st2).trans st3) ((r3.rs ok2 st3).pre (st1.trans st2).toStpS)
    · cases e5
  · cases e5
def dSlS (d : D) (lo hi : Option Int) : Option D := match d with
  | .str z => if z.length ≤ 100000 then some (.str (cutS z lo hi)) else none
  | _ => none
def orS (f g : D → Option Int → Option Int → Option D) : D → Option Int → Option Int → Option D := fun d lo hi => match f d lo hi with
  | some z => some z
  | none => g d lo hi
def dSlU := orS dSlL (orS dSlT dSlS)
def mItU (m : M) : MI := fun ρ => (m ρ).bind fun p => match p.1 with
  | .list ds => some (ds, p.2)
  | .tuple ds => some (ds, p.2)
  | .str x => some (signs x, p.2)
  | _ => none
theorem i_any {tg : Expr} (h : PE X e (tE X.K O m .fz)) : PI X tg e (tI X.K O L (mItU m)) := by
  refine PIi (PI.or (i_seq (L := L) h) (i_str (L := L) h)) fun σ H R ⟨F, ρ, ds, ρ', ok, hm, q⟩ => ?_
  obtain ⟨⟨d, ρ1⟩, e1, e3⟩ := bind_some hm
  cases d <;> cases e3
  · exact .inr ⟨F, ρ, _, ρ1, ok, by unfold mItStr; rw [e1]; rfl, q⟩
  · exact .inl ⟨F, ρ, _, ρ1, ok, by unfold mItS; rw [e1]; rfl, q⟩
  · exact .inl ⟨F, ρ, _, ρ1, ok, by unfold mItS; rw [e1]; rfl, q⟩
def dLenD : List D → Option D
  | [.dict kvs] => gob kvs (some (.int kvs.length))
  | _ => none
theorem call_lenR : CallR X (.builtin "len") (fun xs H Q => ∃ a kvs, xs = [V.ref a] ∧ Rd H a (.dK kvs) ∧ Q (.int kvs.length) H) := by
  intro pins s σ H xs us Q I r h
  obtain ⟨a, kvs, rfl, ha, q⟩ := h
  obtain ⟨u, rfl, ru⟩ := L2.vals1 r
  cases ru
  exact d_len I ha fun t s' I' => ⟨.int kvs.length, H, I', ⟨t, rfl⟩, q⟩
theorem s_lenD {K : PySem.W.Frag} : LSem K (fun xs H Q => ∃ a kvs, xs = [V.ref a] ∧ Rd H a (.dK kvs) ∧ Q (.int kvs.length) H) dLenD .fz := by
  intro F H ds vs d Q s hv ho q
  unfold dLenD at ho
  split at ho
  · obtain ⟨n0, ho⟩ := gob_some ho
    cases ho
    obtain ⟨v, rfl, h⟩ := hv.one
    obtain ⟨a, ws, rfl, h1, h2⟩ := vw_dict n0 h
    refine ⟨a, ws, rfl, h1, q.now s ?_⟩
    rw [h2.length]
    rfl
  · cases ho
def dLenU := orD dLen dLenD
theorem orC {X : Cx} {f : Value} {r r' : List V → Hp → VK → Prop} (h : CallR X f r) (h' : CallR X f r') : CallR X f (fun vs H Q => r vs H Q ∨ r' vs H Q) := fun pins s σ H xs us Q I rv q => q.elim (h pins s σ H xs us Q I rv) (h' pins s σ H xs us Q I rv)
theorem e_lenU (B : Bt X.mg) {ma : MA} {ks : List Ak} (ha : PA X [a] (tA X.K O ma ks)) (hg : Gl X "len" := by rfl) (he : starEach [a] X.env = (false, eval a X.env) :: starEach [] X.env := by rfl) (hpl : (backTo pos (starEach [] X.env)).any (·.1) = false := by rfl) : PE X (.Call (.Name "len" p) [a] [] pos) (tE X.K O (mOp ks ma dLenU) .fz) :=
  e_blt (orC call_len call_lenR) (s_or s_len s_lenD) B.len (by decide +kernel) ha hg (by decide) (by decide) he hpl
end
theorem orSet {X : Cx} {t t' : TSet} (h : PSet X t) (h' : PSet X t') : PSet X (fun o i v H Q => t o i v H Q ∨ t' o i v H Q) := fun pins s σ H o i v ov iv u Q I ro ri rv q => q.elim (h pins s σ H o i v ov iv u Q I ro ri rv) (h' pins s σ H o i v ov iv u Q I ro ri rv)
def putU (c x d : D) : Option D := match c with
  | .list ds => (match x with
    | .int j => (ixN ds.length j).map fun n => .list (ds.set n d)
    | _ => none)
  | .dict kvs => if kvs.length < 1000000 then (dKey x).map fun k => .dict (putD' k d kvs) else none
  | _ => none
def mPutU (i : Nat) (mi mv : M) : MS := fun ρ => (mv ρ).bind fun p => (mBr i p.2).bind fun _ => (mi p.2).bind fun q => match q.2[i]? with
  | some (some c) => (putU c q.1 p.1).map fun z => (.nx, q.2.set i (some z))
  | _ => none
section
variable {X : Cx} {O : List Kd} {pos : Pos} {e o ix : Expr} {spos : Pos}
theorem putU_go {i : Nat} {k0 : Kd} {c x d z : D} {F3 H3 : Hp} {σ : L2.St} {ρ3 : En} {iv v : V} {pp : Addr} {Q : Hp → Prop} (k1 : O[i]? = some k0) (k2 : k0.own = true) (kl : k0.lock = false) (ok3 : Ok X.K O ⟨F3, H3, σ, ρ3⟩) (g2 : ρ3[i]? = some (some c)) (y1 : sv O H3 σ i = some (some (.ref pp)))
    (r3 : Rp X.K F3 x iv) (rv : Rp X.K F3 d v) (hz : putU c x d = some z) (q : ∀ H', Ok X.K O ⟨F3, H', σ, ρ3.set i (some z)⟩ → Stp O ⟨F3, H3, σ, ρ3⟩ ⟨F3, H', σ, ρ3.set i (some z)⟩ → Q H') : rSetL (.ref pp) iv v H3 Q ∨ rSetD (.ref pp) iv v H3 Q := by
  obtain ⟨p2, y2, y3, oo, y4, y5⟩ := ok3.ow i k0 _ k1 k2 g2
  have y2 : sv O H3 σ i = some (some (.ref p2)) := y2
  rw [y1] at y2
  cases y2
  cases c <;> first | (cases hz; done) | skip
  · rename_i ds
    cases x <;> first | (cases hz; done) | skip
    rename_i j
    obtain ⟨n, g3, rfl⟩ := map_some hz
    obtain ⟨xs, y6, y7⟩ := y5
    subst y6
    have r3 : iv = .int j := r3
    subst r3
    obtain ⟨z1, z2⟩ := ok3.chg (o := .lst (xs.set n v)) (d := .list (ds.set n d)) k1 k2 kl g2 y1 y3 ⟨_, rfl, y7.set rv n⟩
    exact .inl ⟨pp, xs, j, n, rfl, rfl, y4, by rw [y7.length]; exact g3, q _ z1 z2⟩
  · rename_i kvs
    have hz : (if kvs.length < 1000000 then (dKey x).map fun k => PyData.dict (putD' k d kvs) else none) = some z := hz
    split at hz
    · rename_i hlen
      obtain ⟨k, g3, rfl⟩ := map_some hz
      obtain ⟨xs, y6, y7⟩ := y5
      subst y6
      have r3 : iv = kV k := dKey_rp g3 (Rp.vw (H := H3) ok3.sub r3)
      subst r3
      obtain ⟨z1, z2⟩ := ok3.chg (o := .dK (putK xs k v)) (d := .dict (putD' k d kvs)) k1 k2 kl g2 y1 y3 ⟨_, rfl, y7.put rv⟩
      exact .inr ⟨pp, _, rfl, .inl ⟨xs, k, y4, rfl, by rw [y7.length]; exact Nat.lt_of_lt_of_le hlen (by decide), rfl⟩, q _ z1 z2⟩
    · cases hz
theorem s_putU (i : Nat) {mi mv : M} {r : Ak} (hu : X.A.units + 65 < cLine) (hO : mutK O[i]? = true) (ho : PE X o (tE X.K O (mBr i) (.br i))) (hi : PE X ix (tE X.K O mi .fz)) (he : PE X e (tE X.K O mv .fz)) (hs : swapsWithSole [.Subscript o ix spos] e pos.line X.env = pure false := by rfl)
    (hw : swappedStores [.Subscript o ix spos] e X.env = pure none := by rfl) (h1 : (assignEach [.Subscript o ix spos] X.env).map (·.2) = [assign (.Subscript o ix spos) X.env] := by rfl)
    (ha : ∀ v, assign (.Subscript o ix spos) X.env v = (do
      let ov ← holding [v] (eval o X.env)
      let iv ← holding [v, ov] (eval ix X.env)
      standAt spos
      holding [v, ov, iv] (setItem ov iv v)
      release [v, ov, iv] []) := by intro _; rfl) : PS X (.Assign [.Subscript o ix spos] e pos) (tS X.K O (mPutU i mi mv) r) := by
  refine PSi (ps_asg he (pg_sub ho hi (orSet set_list (set_dict (by omega))) ha) hs hw h1) fun Dn σ H ⟨F, ρ, fl, ρ', ok, hm, q⟩ => ?_
  obtain ⟨⟨d1, ρ1⟩, e1, e2⟩ := bind_some hm
  obtain ⟨⟨d2, ρ2⟩, e3, e4⟩ := bind_some e2
  obtain ⟨⟨d3, ρ3⟩, e5, e6⟩ := bind_some e4
  obtain ⟨c, g2, e7⟩ := slot_some e6
  obtain ⟨z, g3, g4⟩ := map_some e7
  cases g4
  have hρ : ρ2 = ρ1 := by
    obtain ⟨_, _, z⟩ := slot_some e3
    cases z
    rfl
  subst hρ
  refine ⟨F, ρ, d1, ρ2, ok, e1, fun v F1 H1 ok1 st1 r1 => ?_⟩
  refine ⟨F1, ρ2, d2, ρ2, ok1, e3, fun o F2 H2 ok2 st2 r2 => ?_⟩
  refine ⟨F2, ρ2, d3, ρ3, ok2, e5, fun iv F3 H3 ok3 st3 r3 => ?_⟩
  have go := (st1.trans st2).trans st3
  obtain ⟨r2, k0, k1, k2⟩ := r2.step st3 rfl
  obtain ⟨pp, y1, _⟩ := ok3.ow i k0 _ k1 k2 g2
  rw [y1] at r2
  cases r2
  have kl : k0.lock = false := by
    rw [k1] at hO
    cases k0 <;> first | rfl | cases hO
  exact putU_go (X := X) k1 k2 kl ok3 g2 y1 r3 (Rp.mono (st2.trans st3).ex _ _ r1) g3 fun H' z1 z2 => q σ F3 H' z1 (go.trans z2)
end
def CDivX (_ j : Int) : Prop := j ≠ 0 ∧ j.natAbs.log2 < 9000
theorem op_fdivX {X : Cx} : OpR X (binaryOp .FloorDiv) (rI CDivX fun i j => .int (i.fdiv j)) := L2.opI fun _ _ _ _ _ _ _ hc q => floordiv_int hc.1 q (.inl (PyProof.noPylong_of_log2 hc.2))
def dDivX := opIc (fun i j => decide (j ≠ 0 ∧ j.natAbs.log2 < 9000)) fun i j => .int (i.fdiv j)
theorem s_divX {K : PySem.W.Frag} : LSem K (rL2 (rI CDivX fun i j => .int (i.fdiv j))) dDivX .fz := sIc (fun i j h => of_decide_eq_true (p := j ≠ 0 ∧ j.natAbs.log2 < 9000) h) fun _ _ _ => rfl
theorem hu65 {k : Nat} {A : Around} (r : Room k A) : A.units + 65 < cLine := by
  have := r.un
  omega
def mPar (i j : Nat) (ma : MA) : MS := fun ρ => (ma ρ).bind fun p => match p.1 with
  | [d1, d2] => some (.nx, (p.2.set i (some d1)).set j (some d2))
  | _ => none
section
variable {X : Cx} {O : List Kd} {pos : Pos} {r : Ak}
end
section
variable {X : Cx} {O : List Kd} {pos p : Pos} {a : Expr} {ma : MA} {ks : List Ak}
end
def mTh (i : Nat) (m : MS) : MS := fun ρ => (m (ρ.set i none)).map fun p => (p.1, p.2.set i none)
section
variable {P : Program} {w : World} {K : PySem.W.Frag} {mg : Str → Option Value} {base : Heap} {x : Str} {j k : Nat} {ps : List Str} {sp : Sp} {f : Addr} {fd : FuncData}
theorem FnX.up (h : FnX P w K mg base x j ps sp) (hjk : j ≤ k) : FnX P w K mg base x k ps sp := by
  obtain ⟨f, fd, G, h1, h2, h3⟩ := h.ex
  exact ⟨f, fd, G.up hjk, h1, h2, h3⟩
structure FnXD (P : Program) (w : World) (K : PySem.W.Frag) (mg : Str → Option Value) (base : Heap) (x : Str) (k : Nat) (ps : List Str) (sp : Sp) (dd : List D) : Prop where
  ex : ∃ (f : Addr) (fd : FuncData) (dvs : List V) (ds : List Value), FnG P w K mg base CX0 k f fd ps sp ∧ mg x = some (.ref f) ∧ PySem.W.keepIn K (.ref f) = true ∧ Binds K fd ps ds ∧ Vals dvs ds ∧ ∀ F : Hp, RpA K F dd dvs
theorem FnXD.up {dd : List D} (h : FnXD P w K mg base x j ps sp dd) (hjk : j ≤ k) : FnXD P w K mg base x k ps sp dd := by
  obtain ⟨f, fd, dvs, ds, G, h1, h2, h3⟩ := h.ex
  exact ⟨f, fd, dvs, ds, G.up hjk, h1, h2, h3⟩
end
section
variable {X : Cx} {O Oi : List Kd} {mf : En → Option (D × En)} {r : Ak} {x : Str} {p pos : Pos} {e : Expr} {es : List Expr} {ma : MA} {ks : List Ak} {j k : Nat} {ps : List Str} {dd : List D}
end
def intsD : List D → Option (List Int)
  | [] => some []
  | .int i :: ds => (intsD ds).map (i :: ·)
  | _ :: _ => none
theorem intsD_v {K : PySem.W.Frag} {F : Hp} : ∀ {ds : List D} {ns : List Int} {xs : List V}, intsD ds = some ns → RpA K F ds xs → xs = ns.map V.int
  | [], ns, xs, h, r => by
    cases h
    exact r
  | .int i :: ds, ns, xs, h, r => by
    obtain ⟨cs, h1, rfl⟩ := map_some h
    obtain ⟨v, vs, rfl, r1, r2⟩ := r
    have r1 : v = .int i := r1
    rw [r1, intsD_v h1 r2]
    rfl
  | .none :: _, _, _, h, _ => by cases h
  | .bool _ :: _, _, _, h, _ => by cases h
  | .str _ :: _, _, _, h, _ => by cases h
  | .list _ :: _, _, _, h, _ => by cases h
  | .tuple _ :: _, _, _, h, _ => by cases h
  | .dict _ :: _, _, _, h, _ => by cases h
section
variable {X : Cx} {O : List Kd} {pos p : Pos} {a : Expr} {ma : MA} {ks : List Ak}
end
section
variable {X : Cx} {O : List Kd} {pos p p2 q : Pos} {a : Expr} {m : M} {ma : MA} {ks : List Ak}
end
open PySem.Froz (TxOk SD sObj tailTx addTx tail_ok add_ok add_x is_str)
section
variable {P : Program} {w : World}
def TxP (P : Program) (w : World) (D : SD) (l : List Str) : Prop := TxOk P w D l ∧ Ris D.2.2.place.toList ∧ (w.params.followText "set-order" = true ∨ D.2.2.led = true)
def TxS (P : Program) (w : World) (h : Heap) (a : Addr) (l : List Str) : Prop := ∃ D : SD, h.get? a = some (sObj "set" D) ∧ TxP P w D l
theorem TxS.at_ {h h' : Heap} {a : Addr} {l : List Str} (R : TxS P w h a l) (k : ∀ o, h.get? a = some o → h'.get? a = some o) : TxS P w h' a l := by
  obtain ⟨D, h1, h2⟩ := R
  exact ⟨D, k _ h1, h2⟩
variable {A : Around} {E : Value → Shared → Prop} {s : Shared}
end
open PySem PySem.Spec PyProof.Rows L2
section
variable {X : Cx}
end
section
variable {X : Cx} {O : List Kd} {pos p p2 q : Pos} {a : Expr} {m : M}
end
section
variable {prog : Program} {w : World} {K : Type} [DecidableEq K] {knd : HeapKind prog w K} {A : Around} {E : Value → Shared → Prop} {s : Shared}
theorem call_dictH {o : Addr} {more : List (K × Addr × Value)} {Q : Value → Shared → Prop} (hu : knd.room A.in1.in1) (hoS : (o == sysModules) = false) (ho : s.heap.DictOfH knd o more)
    (hk : ∀ h', (∀ b u, s.heap.get? b = some u → h'.get? b = some u) → ∀ y ∈ more, knd.is h' y.1 y.2.1) (hap : (∀ x ∈ more, s.TypeIs (.ref x.2.1) "tuple") ∧ (more.map fun x => knd.hash x.1).Nodup) (hsz : more.length ≤ sizeLine)
    (h : ∀ h', h'.DictOfH knd s.heap.objs.size more → Heap.SameBut s.heap.objs.size (s.heap.push { cls := .type "dict", data := .dict #[] }) h' → Q (.ref s.heap.objs.size) { s with heap := h' }) :
    wpAny (model prog w) A (call (.type "dict") [.ref o]) Q E s := by
  refine callType_codes (Q₁ := fun obj s₁ => obj = .ref s.heap.objs.size ∧ s₁ = { s with heap := s.heap.push { cls := .type "dict", data := .dict #[] } }) F.kt_called_dict (F.kt_typeCall_dict_1 _) F.entry_dict_init (kt_code_dict_new _ ⟨rfl, rfl⟩) ?_
  rintro obj s₁ ⟨rfl, rfl⟩
  have hnew : (s.heap.push { cls := .type "dict", data := .dict #[] }).DictOfH knd s.heap.objs.size [] := Heap.DictOfH.new s.heap
  have ho' : (s.heap.push { cls := .type "dict", data := .dict #[] }).DictOfH knd o more := ho.at' (fun u e => Heap.get?_push_of_some _ e) (hk _ fun b u e => Heap.get?_push_of_some _ e)
  have hdo : s.heap.objs.size ≠ o := fun e => absurd ho.lt_size (by rw [e]; exact Nat.lt_irrefl _)
  refine ⟨hnew.typeIs, F.args_dict_init_2 _ _, ?_⟩
  unfold Builtin.«dict.__init__»
  refine wpAny_bind ?_
  unfold Builtin.Dict.selfAndRest
  refine wpAny_bind (wpAny_notOrdered_dict hnew.typeIs ?_)
  show wpAny _ _ (pure (s.heap.objs.size, [Value.ref o])) _ _ _
  refine wpAny_pure ?_
  show wpAny _ _ (Builtin.Dict.updateFrom "dict.__init__" s.heap.objs.size (.ref o) [] .none) _ _ _
  refine updateFrom_dictH (A := A.in1) .none hu hdo hoS hnew ho' (.inr ⟨fun x hx => ?_, hap.2⟩) (by simpa using hsz) fun h' h1 h2 h3 => ⟨rfl, ?_⟩
  · obtain ⟨ob, e1, e2⟩ := hap.1 x hx
    exact ⟨ob, Heap.get?_push_of_some _ e1, e2⟩
  · rw [storedAllH_nil_of_nodup more ho.nodup] at h1
    exact h h' h1 h3
end
section
variable {X : Cx}
theorem call_dictT1 (hu : X.A.units + 3 < cLine) : CallR X (.type "dict") (fun xs H Q => ∃ (a : Addr) (k : List Key) (v : V), xs = [.ref a] ∧ Rd H a (.dT [(k, v)]) ∧ ∀ p, H p = none → Q (.ref p) (upd H p (.dT [(k, v)]))) := by
  intro pins s σ H xs us Q I r q
  obtain ⟨a, k, v, ex, hd, q⟩ := q
  subst ex
  obtain ⟨u, eu, rx⟩ := vals1 r
  subst eu
  cases rx
  obtain ⟨z, lo, ys, rel, dd⟩ := dt_rd I.hok hd
  cases rel with
  | @cons p0 y ps qs h0 t0 =>
  cases t0
  obtain ⟨k', b, u⟩ := y
  have hkey : (tupleKind (mixKind X.prog X.w)).is s.heap k b := key_of I.hok h0.2.1
  obtain ⟨ek, hb, hv⟩ := id h0
  have ek : k = k' := ek
  subst ek
  have kp : ∀ h' : Heap, (∀ b u, s.heap.get? b = some u → h'.get? b = some u) → (tupleKind (mixKind X.prog X.w)).is h' k b := fun h' e => by
    obtain ⟨o, its, n, g1, g2⟩ := id hkey
    exact ⟨o, its, n, e _ _ g1, g2⟩
  refine call_dictH (knd := tupleKind (mixKind X.prog X.w)) (more := [(k, b, u)]) (by show X.A.units + 2 < cLine; omega) lo dd (fun h' e y hy => by
    rw [List.mem_singleton.mp hy]
    exact kp h' e) ⟨fun x hx => by
      rw [List.mem_singleton.mp hx]
      obtain ⟨o, its, n, g1, g2, _⟩ := id hkey
      exact ⟨o, g1, g2⟩, by simp⟩ z fun h' d' hs => ?_
  have hm : (s.heap.objs.size == sysModules) = false := beq_eq_false_iff_ne.mpr (Nat.ne_of_gt I.big)
  have hn := I.hok.fresh (Nat.le_refl s.heap.objs.size)
  have hne : b ≠ s.heap.objs.size := fun e => by
    rw [e, hn] at hb
    cases hb
  refine ⟨.ref s.heap.objs.size, upd H s.heap.objs.size (.dT [(k, v)]), I.laid (t' := s.toks) (fun b u e => (hs.2 b (Nat.ne_of_lt (Heap.lt_size e))).trans (Heap.get?_push_of_some _ e)) (Nat.le_refl _)
    (show ObjOk X.prog X.w _ _ _ (.dT [(k, v)]) from ?_), rfl, q _ hn⟩
  obtain ⟨o, es, ep, g1, g2, g3, g4, _, g5⟩ := d'
  exact ⟨z, hm, [(k, b, u)], .cons ⟨rfl, by
    show upd H s.heap.objs.size (.dT [(k, v)]) b = _
    rw [upd_ne hne]
    exact hb, hv⟩ .nil, o, es, ep, g1, g2, g3, g4, g5⟩
end
end DL
namespace L2
open PySem PySem.Spec PyProof.Rows
def tDispT (tk tv : TE) : TE := fun σ H Q => ∀ p, H p = none → tk σ (upd H p (.dT [])) fun x H1 => tv σ H1 fun y H2 => H2 p = some (.dT []) ∧ ∃ b ks, x = .ref b ∧ H2 b = some (.tup (ks.map kV)) ∧ Q (.ref p) (upd H2 p (.dT [(ks, y)]))
theorem pe_dispT {X : Cx} {pos : Pos} {k v : Expr} {tk tv : TE} (hu : X.A.units + 1 < cLine) (hk : PE X k tk) (hv : PE X v tv) : PE X (.Dict [some k] [v] pos) (tDispT tk tv) := by
  refine ⟨fun pins s σ H Q I q => ?_⟩
  have hn := I.hok.fresh (Nat.le_refl s.heap.objs.size)
  have I1 := I.laid (a := s.heap.objs.size) (o := .dT []) (h' := s.heap.push { cls := .type "dict", data := .dict #[] }) (t' := s.toks) (fun _ _ q => Heap.get?_push_of_some _ q) (Nat.le_refl _) (dt_empty s.heap I.big)
  rw [arm_eval_Dict, zip_pairTrees [some k] [v] X.env pos rfl rfl, dictDisplay_pairs _ (by intro z; cases z) (by show 1 < 17; decide)]
  refine wpAny_bind (wpAny_standAt (wpAny_bind (wpAny_subDictH (knd := tupleKind (mixKind X.prog X.w)) (Q := fun d s' => wpAny (model X.prog X.w) X.A (pure (Value.ref d)) (EP X pins σ Q) X.xe s') (by show X.A.units < cLine; omega) (by show 1 ≤ 15; decide) ?_)))
  refine pairTrees_cons_walk (thn (hk.run pins _ σ _ _ I1 (q _ hn)) fun u s1 ⟨x, H1, I2, rx, q1⟩ => thn (hv.run pins s1 σ H1 _ I2 q1) fun w2 s2 ⟨y, H2, I3, ry, e, b, ks, ex, hb, q2⟩ => pairTrees_nil_walk ?_)
  subst ex
  cases rx
  obtain ⟨z, hd, xs, r0, dd⟩ := dt_of I3.hok e
  cases r0
  have hkey : (tupleKind (mixKind X.prog X.w)).is s2.heap ks b := key_of I3.hok hb
  refine ⟨[(ks, b, w2)], ⟨rfl, rfl, hkey, True.intro⟩, dd, fun h' tk d' hs => wpAny_pure ⟨.ref s.heap.objs.size, _, ?_, rfl, q2⟩⟩
  have hne : b ≠ s.heap.objs.size := fun e2 => by
    rw [e2, e] at hb
    cases hb
  have d' : h'.DictOfH (tupleKind (mixKind X.prog X.w)) s.heap.objs.size [(ks, b, w2)] := d'
  obtain ⟨o, es, ep, g1, g2, g3, g4, _, g5⟩ := id d'
  exact d_write I3 (by rw [e]; exact True.intro) hs ⟨o, g1⟩ ⟨by rw [sizeLine_eq]; show 1 ≤ _; decide, hd, [(ks, b, w2)], .cons ⟨rfl, by
    show upd H2 s.heap.objs.size (.dT [(ks, y)]) b = _
    rw [upd_ne hne]
    exact hb, ry⟩ .nil, o, es, ep, g1, g2, g3, g4, g5⟩
end L2
namespace DL
section
variable {α : Type} [DecidableEq α] (nx : α → List α)
def lyOne (os : List α) (st : List α × List α) : List α × List α := os.foldl (fun st o => if o ∈ st.1 then st else (st.1 ++ [o], st.2 ++ [o])) st
def lyRound (layer : List α) (seen : List α) : List α × List α := layer.foldl (fun st x => lyOne (nx x) st) (seen, [])
def lyGo (t : α) : Nat → List α → List α → Nat → Option Nat
  | 0, _, _, _ => none
  | f + 1, layer, seen, c => if t ∈ seen then some c else lyGo t f (lyRound nx layer seen).2 (lyRound nx layer seen).1 (c + 1)
def Rch (s : α) : Nat → α → Prop
  | 0, x => x = s
  | d + 1, x => ∃ y, Rch s d y ∧ x ∈ nx y
variable {nx}
theorem lyOne_ok : ∀ (os : List α) (st : List α × List α), (∀ x, x ∈ (lyOne os st).1 ↔ x ∈ st.1 ∨ x ∈ os) ∧ (∀ x, x ∈ (lyOne os st).2 ↔ x ∈ st.2 ∨ (x ∈ os ∧ x ∉ st.1))
  | [], st => ⟨fun x => by simp [lyOne], fun x => by simp [lyOne]⟩
  | o :: os, st => by
    have ih := lyOne_ok os (if o ∈ st.1 then st else (st.1 ++ [o], st.2 ++ [o]))
    have e : lyOne (o :: os) st = lyOne os (if o ∈ st.1 then st else (st.1 ++ [o], st.2 ++ [o])) := rfl
    rw [e]
    by_cases h : o ∈ st.1
    · rw [if_pos h] at ih ⊢
      refine ⟨fun x => ?_, fun x => ?_⟩
      · rw [ih.1, List.mem_cons]
        constructor
        · rintro (z | z)
          · exact .inl z
          · exact .inr (.inr z)
        · rintro (z | rfl | z)
          · exact .inl z
          · exact .inl h
          · exact .inr z
      · rw [ih.2, List.mem_cons]
        constructor
        · rintro (z | ⟨z, w⟩)
          · exact .inl z
          · exact .inr ⟨.inr z, w⟩
        · rintro (z | ⟨rfl | z, w⟩)
          · exact .inl z
          · exact (w h).elim
          · exact .inr ⟨z, w⟩
    · rw [if_neg h] at ih ⊢
      refine ⟨fun x => ?_, fun x => ?_⟩
      · rw [ih.1, List.mem_append, List.mem_singleton, List.mem_cons, or_assoc]
      · rw [ih.2, List.mem_append, List.mem_singleton, List.mem_append, List.mem_singleton, List.mem_cons]
        constructor
        · rintro ((z | rfl) | ⟨z, w⟩)
          · exact .inl z
          · exact .inr ⟨.inl rfl, h⟩
          · exact .inr ⟨.inr z, fun q => w (.inl q)⟩
        · rintro (z | ⟨rfl | z, w⟩)
          · exact .inl (.inl z)
          · exact .inl (.inr rfl)
          · by_cases e : x = o
            · exact .inl (.inr e)
            · exact .inr ⟨z, fun q => q.elim w e⟩
theorem lyFold_ok : ∀ (layer : List α) (st : List α × List α), (∀ x, x ∈ (layer.foldl (fun st x => lyOne (nx x) st) st).1 ↔ x ∈ st.1 ∨ ∃ y, y ∈ layer ∧ x ∈ nx y) ∧ (∀ x, x ∈ (layer.foldl (fun st x => lyOne (nx x) st) st).2 ↔ x ∈ st.2 ∨ ((∃ y, y ∈ layer ∧ x ∈ nx y) ∧ x ∉ st.1))
  | [], st => ⟨fun x => by simp, fun x => by simp⟩
  | a :: as, st => by
    obtain ⟨i1, i2⟩ := lyFold_ok as (lyOne (nx a) st)
    obtain ⟨o1, o2⟩ := lyOne_ok (nx a) st
    rw [List.foldl_cons]
    refine ⟨fun x => ?_, fun x => ?_⟩
    · rw [i1, o1]
      constructor
      · rintro ((z | z) | ⟨y, hy, z⟩)
        · exact .inl z
        · exact .inr ⟨a, .head _, z⟩
        · exact .inr ⟨y, .tail _ hy, z⟩
      · rintro (z | ⟨y, hy, z⟩)
        · exact .inl (.inl z)
        · rcases List.mem_cons.mp hy with rfl | hy
          · exact .inl (.inr z)
          · exact .inr ⟨y, hy, z⟩
    · rw [i2, o2, o1]
      constructor
      · rintro ((z | ⟨z, w⟩) | ⟨⟨y, hy, z⟩, w⟩)
        · exact .inl z
        · exact .inr ⟨⟨a, .head _, z⟩, w⟩
        · exact .inr ⟨⟨y, .tail _ hy, z⟩, fun q => w (.inl q)⟩
      · rintro (z | ⟨⟨y, hy, z⟩, w⟩)
        · exact .inl (.inl z)
        · rcases List.mem_cons.mp hy with rfl | hy
          · exact .inl (.inr ⟨z, w⟩)
          · by_cases e : x ∈ nx a
            · exact .inl (.inr ⟨e, w⟩)
            · exact .inr ⟨⟨y, hy, z⟩, fun q => q.elim w e⟩
structure LyI (nx : α → List α) (s : α) (c : Nat) (layer seen : List α) : Prop where
  seen : ∀ x, x ∈ seen ↔ ∃ d, d ≤ c ∧ Rch nx s d x
  layer : ∀ x, x ∈ layer ↔ Rch nx s c x ∧ ∀ d, d < c → ¬ Rch nx s d x
theorem LyI.step {s : α} {c : Nat} {layer seen : List α} (h : LyI nx s c layer seen) : LyI nx s (c + 1) (lyRound nx layer seen).2 (lyRound nx layer seen).1 := by
  obtain ⟨f1, f2⟩ := lyFold_ok (nx := nx) layer (seen, [])
  have pred : ∀ x, Rch nx s (c + 1) x → (∃ d, d ≤ c ∧ Rch nx s d x) ∨ ∃ y, y ∈ layer ∧ x ∈ nx y := fun x ⟨y, hy, hx⟩ => by
    by_cases q : ∃ d, d < c ∧ Rch nx s d y
    · obtain ⟨d, hd, r⟩ := q
      exact .inl ⟨d + 1, hd, y, r, hx⟩
    · exact .inr ⟨y, (h.layer y).mpr ⟨hy, fun d hd r => q ⟨d, hd, r⟩⟩, hx⟩
  refine ⟨fun x => ?_, fun x => ?_⟩
  · refine (f1 x).trans ?_
    rw [h.seen]
    constructor
    · rintro (⟨d, hd, r⟩ | ⟨y, hy, z⟩)
      · exact ⟨d, by omega, r⟩
      · exact ⟨c + 1, Nat.le_refl _, y, ((h.layer y).mp hy).1, z⟩
    · rintro ⟨d, hd, r⟩
      by_cases e : d = c + 1
      · subst e
        exact pred x r
      · exact .inl ⟨d, by omega, r⟩
  · refine (f2 x).trans ?_
    constructor
    · rintro (z | ⟨⟨y, hy, z⟩, w⟩)
      · cases z
      · exact ⟨⟨y, ((h.layer y).mp hy).1, z⟩, fun d hd r => w ((h.seen x).mpr ⟨d, by omega, r⟩)⟩
    · rintro ⟨r, m⟩
      rcases pred x r with ⟨d, hd, r2⟩ | z
      · exact (m d (by omega) r2).elim
      · exact .inr ⟨z, fun q => by
          obtain ⟨d, hd, r2⟩ := (h.seen x).mp q
          exact m d (by omega) r2⟩
theorem lyGo_ok {s t : α} {k : Nat} (hk : Rch nx s k t) (hm : ∀ d, d < k → ¬ Rch nx s d t) : ∀ (f c : Nat) (layer seen : List α), LyI nx s c layer seen → c ≤ k → k - c < f → lyGo nx t f layer seen c = some k
  | 0, _, _, _, _, _, h => absurd h (Nat.not_lt_zero _)
  | f + 1, c, layer, seen, I, hc, hf => by
    unfold lyGo
    by_cases e : t ∈ seen
    · rw [if_pos e]
      obtain ⟨d, hd, r⟩ := (I.seen t).mp e
      have : ¬ d < k := fun z => hm d z r
      rw [show c = k by omega]
    · rw [if_neg e]
      have : c ≠ k := fun z => e ((I.seen t).mpr ⟨k, by omega, hk⟩)
      exact lyGo_ok hk hm f (c + 1) _ _ I.step (by omega) (by omega)
theorem LyI.zero {s : α} : LyI nx s 0 [s] [s] := ⟨fun x => by
  rw [List.mem_singleton]
  exact ⟨fun h => ⟨0, Nat.le_refl _, h⟩, fun ⟨d, hd, r⟩ => by
    obtain rfl : d = 0 := by omega
    exact r⟩, fun x => by
  rw [List.mem_singleton]
  exact ⟨fun h => ⟨h, fun d hd => by omega⟩, fun h => h.1⟩⟩
end
open PySem PySem.Spec PyProof.Rows L2
def W {α : Type} (m : Option (α × En)) (Q : α → En → Prop) : Prop := ∃ a ρ, m = some (a, ρ) ∧ Q a ρ
section
variable {α β : Type} {m : Option (α × En)} {Q R : α → En → Prop} {ρ : En} {i : Nat} {d : D}
theorem W.mono (h : W m Q) (k : ∀ a ρ, Q a ρ → R a ρ) : W m R := by
  obtain ⟨a, ρ, e, q⟩ := h
  exact ⟨a, ρ, e, k a ρ q⟩
@[simp] theorem W_some {a : α} : W (some (a, ρ)) Q ↔ Q a ρ := ⟨fun ⟨_, _, e, q⟩ => by cases e; exact q, fun q => ⟨a, ρ, rfl, q⟩⟩
@[simp] theorem W_none : W (none : Option (α × En)) Q ↔ False := ⟨fun ⟨_, _, e, _⟩ => by (cases e), False.elim⟩
theorem W_bind {f : α × En → Option (β × En)} {R : β → En → Prop} : W (m.bind f) R ↔ W m fun a ρ => W (f (a, ρ)) R := by
  constructor
  · rintro ⟨b, ρ', e, q⟩
    obtain ⟨⟨a, ρ1⟩, e1, e2⟩ := Option.bind_eq_some_iff.mp e
    exact ⟨a, ρ1, e1, b, ρ', e2, q⟩
  · rintro ⟨a, ρ1, e1, b, ρ', e2, q⟩
    exact ⟨b, ρ', by rw [e1]; exact e2, q⟩
theorem W_map {f : α × En → β × En} {R : β → En → Prop} : W (m.map f) R ↔ W m fun a ρ => R (f (a, ρ)).1 (f (a, ρ)).2 := by
  constructor
  · rintro ⟨b, ρ', e, q⟩
    obtain ⟨⟨a, ρ1⟩, e1, e2⟩ := Option.map_eq_some_iff.mp e
    exact ⟨a, ρ1, e1, by show R (f (a, ρ1)).1 (f (a, ρ1)).2; rw [e2]; exact q⟩
  · rintro ⟨a, ρ1, e1, q⟩
    exact ⟨_, _, by rw [e1]; rfl, q⟩
theorem W_ite {c : Prop} [Decidable c] {a b : Option (α × En)} : W (if c then a else b) Q ↔ if c then W a Q else W b Q := by
  split <;> rfl
def at? (ρ : En) (i : Nat) : Option D := (ρ[i]?).join
@[simp] theorem at_nil : at? [] i = none := rfl
@[simp] theorem at_zero {x : Option D} : at? (x :: ρ) 0 = x := rfl
@[simp] theorem at_succ {x : Option D} : at? (x :: ρ) (i + 1) = at? ρ i := rfl
end
section
variable {Q : D → En → Prop} {QT : Bool → En → Prop} {QA : List D → En → Prop} {QS : Fl → En → Prop} {ρ : En} {i : Nat} {d : D}
@[simp] theorem W_var : W (mVar i ρ) Q ↔ ∃ d, at? ρ i = some d ∧ Q d ρ := by
  unfold mVar at?
  cases h : ρ[i]? with
  | none => simp
  | some o => cases o <;> simp
@[simp] theorem W_mv : W (mMv i ρ) Q ↔ ∃ d, at? ρ i = some d ∧ Q d (ρ.set i none) := by
  unfold mMv at?
  cases h : ρ[i]? with
  | none => simp
  | some o => cases o <;> simp
@[simp] theorem W_br : W (mBr i ρ) Q ↔ ∃ d, at? ρ i = some d ∧ Q .none ρ := by
  unfold mBr at?
  cases h : ρ[i]? with
  | none => simp
  | some o => cases o <;> simp
@[simp] theorem W_C : W (mC d ρ) Q ↔ Q d ρ := W_some
@[simp] theorem W_aNil : W (maNil ρ) QA ↔ QA [] ρ := W_some
@[simp] theorem W_aCons {m : M} {r : MA} : W (maCons m r ρ) QA ↔ W (m ρ) fun d ρ1 => W (r ρ1) fun ds ρ2 => QA (d :: ds) ρ2 := by
  unfold maCons
  rw [W_bind]
  simp only [W_bind, W_some]
@[simp] theorem W_op {ks : List Ak} {ma : MA} {op : List D → Option D} : W (mOp ks ma op ρ) Q ↔ W (ma ρ) fun ds ρ1 => ∃ es, fill ks ds ρ1 = some es ∧ ∃ z, op es = some z ∧ Q z ρ1 := by
  unfold mOp
  rw [W_bind]
  refine ⟨fun h => h.mono fun ds ρ1 ⟨a, ρ', e, q⟩ => ?_, fun h => h.mono fun ds ρ1 ⟨es, e1, z, e2, q⟩ => ?_⟩
  · obtain ⟨es, e1, e2⟩ := Option.bind_eq_some_iff.mp e
    obtain ⟨z, e3, e4⟩ := Option.map_eq_some_iff.mp e2
    cases e4
    exact ⟨es, e1, _, e3, q⟩
  · exact ⟨z, ρ1, by rw [e1]; show (op es).map _ = _; rw [e2]; rfl, q⟩
@[simp] theorem W_m1 {k : Ak} {m : M} {op : List D → Option D} : W (m1 k m op ρ) Q ↔ W (m ρ) fun d ρ1 => ∃ es, fill [k] [d] ρ1 = some es ∧ ∃ z, op es = some z ∧ Q z ρ1 := by
  unfold m1
  simp only [W_op, W_aCons, W_aNil]
@[simp] theorem W_m2 {k k2 : Ak} {m m' : M} {op : List D → Option D} : W (m2 k k2 m m' op ρ) Q ↔ W (m ρ) fun d ρ1 => W (m' ρ1) fun d' ρ2 => ∃ es, fill [k, k2] [d, d'] ρ2 = some es ∧ ∃ z, op es = some z ∧ Q z ρ2 := by
  unfold m2
  simp only [W_op, W_aCons, W_aNil]
@[simp] theorem fill_nil : fill [] [] ρ = some [] := rfl
@[simp] theorem fill_fz {ks : List Ak} {ds : List D} : fill (.fz :: ks) (d :: ds) ρ = (fill ks ds ρ).map (d :: ·) := rfl
@[simp] theorem fill_ow {ks : List Ak} {ds : List D} : fill (.ow :: ks) (d :: ds) ρ = (fill ks ds ρ).map (d :: ·) := rfl
@[simp] theorem fill_br {ks : List Ak} {ds : List D} : fill (.br i :: ks) (d :: ds) ρ = (at? ρ i).bind fun d => (fill ks ds ρ).map (d :: ·) := by
  unfold at?
  show (match ρ[i]? with | some (some d) => _ | _ => none) = _
  cases h : ρ[i]? with
  | none => rfl
  | some o => cases o <;> rfl
@[simp] theorem W_tr {m : M} : W (mTr m ρ) QT ↔ W (m ρ) fun d ρ1 => ∃ b, d = .bool b ∧ QT b ρ1 := by
  unfold mTr
  rw [W_bind]
  refine ⟨fun h => h.mono fun d ρ1 q => ?_, fun h => h.mono fun d ρ1 ⟨b, e, q⟩ => by rw [e]; exact W_some.mpr q⟩
  cases d <;> first | exact ⟨_, rfl, W_some.mp q⟩ | exact (W_none.mp q).elim
@[simp] theorem W_and {a b : MT} : W (mAnd a b ρ) QT ↔ W (a ρ) fun c ρ1 => if c = true then W (b ρ1) QT else QT false ρ1 := by
  unfold mAnd
  rw [W_bind]
  simp only [W_ite, W_some]
@[simp] theorem W_or {a b : MT} : W (mOr a b ρ) QT ↔ W (a ρ) fun c ρ1 => if c = true then QT true ρ1 else W (b ρ1) QT := by
  unfold mOr
  rw [W_bind]
  simp only [W_ite, W_some]
@[simp] theorem W_not {a : MT} : W (mNot a ρ) QT ↔ W (a ρ) fun c ρ1 => QT (!c) ρ1 := W_map
@[simp] theorem W_andV {a b : M} : W (mAndV a b ρ) Q ↔ W (mTr a ρ) fun c ρ1 => if c = true then W (b ρ1) Q else Q (.bool false) ρ1 := by
  unfold mAndV
  rw [W_bind]
  simp only [W_ite, W_some]
@[simp] theorem W_orV {a b : M} : W (mOrV a b ρ) Q ↔ W (mTr a ρ) fun c ρ1 => if c = true then Q (.bool true) ρ1 else W (b ρ1) Q := by
  unfold mOrV
  rw [W_bind]
  simp only [W_ite, W_some]
@[simp] theorem W_notV {a : M} : W (mNotV a ρ) Q ↔ W (mTr a ρ) fun c ρ1 => Q (.bool (!c)) ρ1 := W_map
@[simp] theorem W_if {t : MT} {a b : M} : W (mIf t a b ρ) Q ↔ W (t ρ) fun c ρ1 => if c = true then W (a ρ1) Q else W (b ρ1) Q := by
  unfold mIf
  rw [W_bind]
  simp only [W_ite]
@[simp] theorem W_tup {ma : MA} : W (mTup ma ρ) Q ↔ W (ma ρ) fun ds ρ1 => Q (.tuple ds) ρ1 := W_map
@[simp] theorem W_lst {ma : MA} : W (mLst ma ρ) Q ↔ W (ma ρ) fun ds ρ1 => Q (.list ds) ρ1 := W_map
@[simp] theorem W_chain {f g : Int → Int → Bool} {a b c : M} : W (mChain f g a b c ρ) Q ↔ W (a ρ) fun x ρ1 => W (b ρ1) fun y ρ2 => ∃ i j, x = .int i ∧ y = .int j ∧ if f i j = true then W (c ρ2) fun z ρ3 => ∃ n, z = .int n ∧ Q (.bool (g j n)) ρ3 else Q (.bool false) ρ2 := by
  unfold mChain
  rw [W_bind]
  simp only [W_bind]
  refine ⟨fun h => h.mono fun x ρ1 h => h.mono fun y ρ2 q => ?_, fun h => h.mono fun x ρ1 h => h.mono fun y ρ2 ⟨i, j, e1, e2, q⟩ => ?_⟩
  · cases x <;> cases y <;> first | (exact (W_none.mp q).elim) | skip
    refine ⟨_, _, rfl, rfl, ?_⟩
    have q := W_ite.mp q
    split at q
    · rename_i h
      rw [if_pos h]
      refine (W_bind.mp q).mono fun z ρ3 q => ?_
      cases z <;> first | exact ⟨_, rfl, W_some.mp q⟩ | exact (W_none.mp q).elim
    · rename_i h
      rw [if_neg h]
      exact W_some.mp q
  · subst e1 e2
    refine W_ite.mpr ?_
    split at q
    · rename_i h
      rw [if_pos h]
      refine W_bind.mpr (q.mono fun z ρ3 ⟨n, e, q⟩ => ?_)
      subst e
      exact W_some.mpr q
    · rename_i h
      rw [if_neg h]
      exact W_some.mpr q
def nxK (f : Fl) (ρ : En) (K : En → Prop) (Q : Fl → En → Prop) : Prop := match f with
  | .nx => K ρ
  | f => Q f ρ
@[simp] theorem nxK_nx {K : En → Prop} : nxK .nx ρ K QS ↔ K ρ := Iff.rfl
@[simp] theorem nxK_bk {K : En → Prop} : nxK .bk ρ K QS ↔ QS .bk ρ := Iff.rfl
@[simp] theorem nxK_ct {K : En → Prop} : nxK .ct ρ K QS ↔ QS .ct ρ := Iff.rfl
@[simp] theorem nxK_rt {K : En → Prop} : nxK (.rt d) ρ K QS ↔ QS (.rt d) ρ := Iff.rfl
theorem W_seq {a b : MS} : W (mSeq a b ρ) QS ↔ W (a ρ) fun f ρ1 => nxK f ρ1 (fun ρ => W (b ρ) QS) QS := by
  unfold mSeq
  rw [W_bind]
  refine ⟨fun h => h.mono fun f ρ1 q => ?_, fun h => h.mono fun f ρ1 q => ?_⟩ <;> cases f <;> first | exact q | exact W_some.mp q | exact W_some.mpr q
@[simp] theorem W_skip : W (mSkip ρ) QS ↔ QS .nx ρ := W_some
@[simp] theorem W_break : W (mBreak ρ) QS ↔ QS .bk ρ := W_some
@[simp] theorem W_cont : W (mCont ρ) QS ↔ QS .ct ρ := W_some
@[simp] theorem W_never : W (mNever ρ) QS ↔ False := W_none
@[simp] theorem W_drop {m : M} : W (mDrop m ρ) QS ↔ W (m ρ) fun _ ρ1 => QS .nx ρ1 := W_map
@[simp] theorem W_ret {m : M} : W (mRet m ρ) QS ↔ W (m ρ) fun d ρ1 => QS (.rt d) ρ1 := W_map
@[simp] theorem W_iteS {c : MT} {a b : MS} : W (mIte c a b ρ) QS ↔ W (c ρ) fun t ρ1 => if t = true then W (a ρ1) QS else W (b ρ1) QS := by
  unfold mIte
  rw [W_bind]
  simp only [W_ite]
@[simp] theorem W_set {m : M} : W (mSet i m ρ) QS ↔ W (m ρ) fun d ρ1 => QS .nx (ρ1.set i (some d)) := W_map
@[simp] theorem W_fz {m : MS} : W (mFz i m ρ) QS ↔ W (m ρ) fun f ρ1 => QS f (ρ1.set i none) := W_map
@[simp] theorem W_asg {g : MG} {m : M} : W (mAsg g m ρ) QS ↔ W (m ρ) fun d ρ1 => ∃ ρ2, g d ρ1 = some ρ2 ∧ QS .nx ρ2 := by
  unfold mAsg
  rw [W_bind]
  refine ⟨fun h => h.mono fun d ρ1 ⟨a, ρ', e, q⟩ => ?_, fun h => h.mono fun d ρ1 ⟨ρ2, e, q⟩ => ⟨_, ρ2, by show (g d ρ1).map _ = _; rw [e]; rfl, q⟩⟩
  obtain ⟨ρ2, e1, e2⟩ := Option.map_eq_some_iff.mp e
  cases e2
  exact ⟨_, e1, q⟩
@[simp] theorem W_aug {m : M} {op : List D → Option D} : W (mAug i m op ρ) QS ↔ ∃ d, at? ρ i = some d ∧ W (m ρ) fun d2 ρ1 => ∃ z, op [d, d2] = some z ∧ QS .nx (ρ1.set i (some z)) := by
  unfold mAug at?
  cases h : ρ[i]? with
  | none => simp
  | some o =>
    cases o with
    | none => simp
    | some d =>
      simp only [Option.join_some, Option.some.injEq, exists_eq_left']
      show W ((m ρ).bind _) _ ↔ _
      rw [W_bind]
      refine ⟨fun h => h.mono fun d2 ρ1 ⟨a, ρ', e, q⟩ => ?_, fun h => h.mono fun d2 ρ1 ⟨z, e, q⟩ => ⟨_, _, by show (op [d, d2]).map _ = _; rw [e]; rfl, q⟩⟩
      obtain ⟨z, e1, e2⟩ := Option.map_eq_some_iff.mp e
      cases e2
      exact ⟨_, e1, q⟩
@[simp] theorem W_call {mf : En → Option (D × En)} {ks : List Ak} {dd : List D} {ma : MA} : W (mCall mf ks dd ma ρ) Q ↔ W (ma ρ) fun ds ρ1 => ∃ es, fill ks ds ρ1 = some es ∧ W (mf ((es ++ dd).map some)) fun z out => Q z (putB ks out ρ1) := by
  unfold mCall
  rw [W_bind]
  refine ⟨fun h => h.mono fun ds ρ1 ⟨a, ρ', e, q⟩ => ?_, fun h => h.mono fun ds ρ1 ⟨es, e1, z, out, e2, q⟩ => ⟨_, _, by rw [e1]; show (mf _).bind _ = _; rw [e2]; rfl, q⟩⟩
  obtain ⟨es, e1, e2⟩ := Option.bind_eq_some_iff.mp e
  obtain ⟨⟨z, out⟩, e3, e4⟩ := Option.bind_eq_some_iff.mp e2
  cases e4
  exact ⟨es, e1, z, out, e3, q⟩
@[simp] theorem putB_nil {out : En} : putB [] out ρ = ρ := rfl
@[simp] theorem putB_br {ks : List Ak} {o : Option D} {os : En} : putB (.br i :: ks) (o :: os) ρ = putB ks os (ρ.set i o) := rfl
@[simp] theorem putB_fz {ks : List Ak} {o : Option D} {os : En} : putB (.fz :: ks) (o :: os) ρ = putB ks os ρ := rfl
@[simp] theorem putB_ow {ks : List Ak} {o : Option D} {os : En} : putB (.ow :: ks) (o :: os) ρ = putB ks os ρ := rfl
theorem W_fun {Oi : List Kd} {n : Nat} {r : Ak} {b : MS} : W (mFun Oi n r b ρ) Q ↔ W (b (ρ ++ List.replicate n none)) fun f ρ1 => (∃ d, f = .rt d ∧ Q d (outE Oi ρ1)) ∨ (f = .nx ∧ r = .fz ∧ Q .none (outE Oi ρ1)) := by
  unfold mFun
  rw [W_bind]
  refine ⟨fun h => h.mono fun f ρ1 q => ?_, fun h => h.mono fun f ρ1 q => ?_⟩
  · cases f with
    | rt d => exact .inl ⟨d, rfl, W_some.mp q⟩
    | nx =>
      cases r with
      | fz => exact .inr ⟨rfl, rfl, W_some.mp q⟩
      | ow => exact (W_none.mp q).elim
      | br _ => exact (W_none.mp q).elim
    | bk => exact (W_none.mp q).elim
    | ct => exact (W_none.mp q).elim
  · rcases q with ⟨d, rfl, q⟩ | ⟨rfl, rfl, q⟩ <;> exact W_some.mpr q
@[simp] theorem outE_nil : outE [] ρ = [] := rfl
@[simp] theorem outE_cons {k : Kd} {ks : List Kd} {r : Option D} : outE (k :: ks) (r :: ρ) = (if k = .io then r else none) :: outE ks ρ := rfl
@[simp] theorem W_setIx {mi mv : M} : W (mSetIx i mi mv ρ) QS ↔ W (mv ρ) fun v ρ1 => ∃ d, at? ρ1 i = some d ∧ W (mi ρ1) fun x ρ2 => ∃ j ds n, x = .int j ∧ at? ρ2 i = some (.list ds) ∧ ixN ds.length j = some n ∧ QS .nx (ρ2.set i (some (.list (ds.set n v)))) := by
  unfold mSetIx
  rw [W_bind]
  refine ⟨fun h => h.mono fun v ρ1 h => ?_, fun h => h.mono fun v ρ1 ⟨d, e, h⟩ => ?_⟩
  · obtain ⟨d, e, h⟩ := W_br.mp (W_bind.mp h)
    refine ⟨d, e, (W_bind.mp h).mono fun x ρ2 q => ?_⟩
    obtain ⟨a, ρ3, e1, q⟩ := q
    dsimp only at e1
    split at e1
    · rename_i j ds e3
      obtain ⟨n, e4, e5⟩ := Option.map_eq_some_iff.mp e1
      cases e5
      refine ⟨j, ds, _, rfl, by unfold at?; rw [e3]; rfl, e4, q⟩
    · cases e1
  · refine W_bind.mpr (W_br.mpr ⟨d, e, W_bind.mpr (h.mono fun x ρ2 ⟨j, ds, n, e1, e2, e3, q⟩ => ?_)⟩)
    subst e1
    have e4 : ρ2[i]? = some (some (.list ds)) := by
      unfold at? at e2
      cases h : ρ2[i]? with
      | none => rw [h] at e2; cases e2
      | some o => rw [h] at e2; rw [show o = some _ from e2]
    refine ⟨_, _, ?_, q⟩
    rw [e4]
    show (ixN ds.length j).map _ = _
    rw [e3]
    rfl
theorem W_mut0 {T : String} {ma : MA} {op : D → List D → Option (D × D)} : W (mMut i T ma op ρ) Q ↔ ∃ d1, at? ρ i = some d1 ∧ isTy T d1 = true ∧ W (ma ρ) fun ds ρ1 => ∃ d0, at? ρ1 i = some d0 ∧ ∃ z, op d0 ds = some z ∧ Q z.1 (ρ1.set i (some z.2)) := by
  unfold mMut at?
  cases h : ρ[i]? with
  | none => simp
  | some o =>
    cases o with
    | none => simp
    | some d1 =>
      simp only [Option.join_some, Option.some.injEq, exists_eq_left']
      show W (if isTy T d1 = true then _ else none) _ ↔ _
      rw [W_ite]
      by_cases hT : isTy T d1 = true
      · rw [if_pos hT, W_bind]
        refine ⟨fun h => ⟨hT, h.mono fun ds ρ1 ⟨a, ρ', e, q⟩ => ?_⟩, fun ⟨_, h⟩ => h.mono fun ds ρ1 ⟨d0, e, z, e1, q⟩ => ?_⟩
        · dsimp only at e
          split at e
          · rename_i d0 e0
            obtain ⟨z, e1, e2⟩ := Option.map_eq_some_iff.mp e
            cases e2
            exact ⟨d0, by rw [e0]; rfl, _, e1, q⟩
          · cases e
        · have e4 : ρ1[i]? = some (some d0) := by
            cases h : ρ1[i]? with
            | none => rw [h] at e; cases e
            | some o => rw [h] at e; rw [show o = some _ from e]
          refine ⟨z.1, _, ?_, q⟩
          rw [e4]
          show (op d0 ds).map _ = _
          rw [e1]
          rfl
      · rw [if_neg hT]
        exact ⟨fun h => (W_none.mp h).elim, fun h => (hT h.1).elim⟩
@[simp] theorem W_mut {T : String} {ma : MA} {op : D → List D → Option (D × D)} : W (mMut i T ma op ρ) Q ↔ ∃ d1, at? ρ i = some d1 ∧ isTy T d1 = true ∧ W (ma ρ) fun ds ρ1 => ∃ d0, at? ρ1 i = some d0 ∧ ∃ x y, op d0 ds = some (x, y) ∧ Q x (ρ1.set i (some y)) := by
  rw [W_mut0]
  simp only [Prod.exists]
@[simp] theorem W_sl {ka : Ak} {m : M} {lo hi : MO} {op : D → Option Int → Option Int → Option D} : W (mSl ka m lo hi op ρ) Q ↔ W (m ρ) fun d ρ1 => W (lo ρ1) fun l ρ2 => W (hi ρ2) fun h ρ3 => ∃ es, fill [ka] [d] ρ3 = some es ∧ ∃ x, es = [x] ∧ ∃ z, op x l h = some z ∧ Q z ρ3 := by
  unfold mSl
  rw [W_bind]
  simp only [W_bind]
  refine ⟨fun h => h.mono fun d ρ1 h => h.mono fun l ρ2 h => h.mono fun hh ρ3 ⟨a, ρ', e, q⟩ => ?_, fun h => h.mono fun d ρ1 h => h.mono fun l ρ2 h => h.mono fun hh ρ3 ⟨es, e1, x, e2, z, e3, q⟩ => ⟨z, ρ3, ?_, q⟩⟩
  · obtain ⟨es, e1, e2⟩ := Option.bind_eq_some_iff.mp e
    split at e2
    · obtain ⟨z, e3, e4⟩ := Option.map_eq_some_iff.mp e2
      cases e4
      exact ⟨_, e1, _, rfl, _, e3, q⟩
    · cases e2
  · subst e2
    rw [e1]
    show (op x l hh).map _ = _
    rw [e3]
    rfl
@[simp] theorem W_no {QO : Option Int → En → Prop} : W (mNo ρ) QO ↔ QO none ρ := W_some
@[simp] theorem W_pt {QO : Option Int → En → Prop} {m : M} : W (mPt m ρ) QO ↔ W (m ρ) fun d ρ1 => ∃ i, d = .int i ∧ QO (some i) ρ1 := by
  unfold mPt
  rw [W_bind]
  refine ⟨fun h => h.mono fun d ρ1 q => ?_, fun h => h.mono fun d ρ1 ⟨b, e, q⟩ => by rw [e]; exact W_some.mpr q⟩
  cases d <;> first | exact ⟨_, rfl, W_some.mp q⟩ | exact (W_none.mp q).elim
end
def fnK (Oi : List Kd) (r : Ak) (Q : D → En → Prop) (f : Fl) (ρ : En) : Prop := match f with
  | .rt d => Q d (outE Oi ρ)
  | .nx => r = .fz ∧ Q .none (outE Oi ρ)
  | _ => False
section
variable {Oi : List Kd} {r : Ak} {Q : D → En → Prop} {ρ : En} {d : D} {n : Nat} {b : MS}
@[simp] theorem fnK_rt : fnK Oi r Q (.rt d) ρ ↔ Q d (outE Oi ρ) := Iff.rfl
@[simp] theorem fnK_nx : fnK Oi .fz Q .nx ρ ↔ Q .none (outE Oi ρ) := ⟨fun h => h.2, fun h => ⟨rfl, h⟩⟩
theorem W_fn : W (mFun Oi n r b ρ) Q ↔ W (b (ρ ++ List.replicate n none)) (fnK Oi r Q) := by
  rw [W_fun]
  refine ⟨fun h => h.mono fun f ρ1 q => ?_, fun h => h.mono fun f ρ1 q => ?_⟩
  · rcases q with ⟨d, rfl, q⟩ | ⟨rfl, e, q⟩
    · exact q
    · exact ⟨e, q⟩
  · cases f with
    | rt d => exact .inl ⟨d, rfl, q⟩
    | nx => exact .inr ⟨rfl, q.1, q.2⟩
    | bk => exact q.elim
    | ct => exact q.elim
end
@[simp] theorem ex_cond {α : Type} {c : Prop} {x : α} {P : α → Prop} : (∃ z, (c ∧ z = x) ∧ P z) ↔ c ∧ P x := ⟨fun ⟨_, ⟨h, e⟩, p⟩ => ⟨h, by rw [← e]; exact p⟩, fun ⟨h, p⟩ => ⟨x, ⟨h, rfl⟩, p⟩⟩
@[simp] theorem ex_cond2 {α β : Type} {c : Prop} {x : α} {y : β} {P : α → β → Prop} : (∃ a b, (c ∧ a = x ∧ b = y) ∧ P a b) ↔ c ∧ P x y := ⟨fun ⟨_, _, ⟨h, e, e2⟩, p⟩ => ⟨h, by rw [← e, ← e2]; exact p⟩, fun ⟨h, p⟩ => ⟨x, y, ⟨h, rfl, rfl⟩, p⟩⟩
@[simp] theorem ixN_0 {n : Nat} : ixN (n + 1) 0 = some 0 := by
  unfold ixN
  rw [if_pos (by omega), if_pos (by omega)]
  rfl
section
variable {i j : Int} {Q : D → Prop}
@[simp] theorem dAdd_i : dAdd [.int i, .int j] = some (.int (i + j)) := rfl
@[simp] theorem dSub_i : dSub [.int i, .int j] = some (.int (i - j)) := rfl
@[simp] theorem dLt_i : dLt [.int i, .int j] = some (.bool (decide (i < j))) := rfl
@[simp] theorem dLe_i : dLe [.int i, .int j] = some (.bool (decide (i ≤ j))) := rfl
@[simp] theorem dGt_i : dGt [.int i, .int j] = some (.bool (decide (j < i))) := rfl
@[simp] theorem dGe_i : dGe [.int i, .int j] = some (.bool (decide (j ≤ i))) := rfl
@[simp] theorem dNeg_i : dNeg [.int i] = some (.int (-i)) := rfl
def MulOk (i j : Int) : Prop := i.natAbs.log2 + j.natAbs.log2 < 1000000
theorem log2_small {n : Nat} (h : n < 2 ^ 4000) : n.log2 < 4000 := by
  by_cases z : n = 0
  · rw [z]
    decide
  · exact (Nat.log2_lt z).mpr h
theorem pow64 : (2 : Nat) ^ 64 < 2 ^ 4000 := by decide +kernel
theorem mulOk_of (h : i.natAbs < 2 ^ 64) (h' : j.natAbs < 2 ^ 64) : MulOk i j := by
  have a := log2_small (Nat.lt_trans h pow64)
  have b := log2_small (Nat.lt_trans h' pow64)
  unfold MulOk
  omega
@[simp] theorem dMul_i {d : D} : dMul [.int i, .int j] = some d ↔ MulOk i j ∧ d = .int (i * j) := by
  unfold dMul opIc MulOk
  simp only [decide_eq_true_eq]
  split
  · rename_i h
    exact ⟨fun e => ⟨h, by cases e; rfl⟩, fun e => by rw [e.2]⟩
  · rename_i h
    exact ⟨fun e => (by cases e), fun e => (h e.1).elim⟩
@[simp] theorem dDiv_i {d : D} (hj : 0 < j) : dDiv [.int i, .int j] = some d ↔ j < 1073741824 ∧ d = .int (i / j) := by
  unfold dDiv opIc
  simp only [decide_eq_true_eq]
  split
  · rename_i h
    rw [Int.fdiv_eq_ediv_of_nonneg _ (Int.le_of_lt hj)]
    exact ⟨fun e => ⟨by omega, by cases e; rfl⟩, fun e => by rw [e.2]⟩
  · rename_i h
    exact ⟨fun e => (by cases e), fun e => (h ⟨by omega, by omega⟩).elim⟩
@[simp] theorem dMod_i {d : D} (hj : 0 < j) : dMod [.int i, .int j] = some d ↔ d = .int (i % j) := by
  unfold dMod opIc
  simp only [decide_eq_true_eq]
  rw [if_pos (by omega), Int.fmod_eq_emod_of_nonneg _ (Int.le_of_lt hj)]
  exact ⟨fun e => by cases e; rfl, fun e => by rw [e]⟩
@[simp] theorem dPow_i {d : D} : dPow [.int i, .int j] = some d ↔ (0 ≤ j ∧ j ≤ 1000000 ∧ i.natAbs < 2 ^ 64) ∧ d = .int (i ^ j.toNat) := by
  unfold dPow opIc
  simp only [decide_eq_true_eq]
  split
  · rename_i h
    exact ⟨fun e => ⟨h, by cases e; rfl⟩, fun e => by rw [e.2]⟩
  · rename_i h
    exact ⟨fun e => (by cases e), fun e => (h e.1).elim⟩
variable {ds es : List D} {d x : D}
@[simp] theorem dLen_l : dLen [.list ds] = some (.int ds.length) := rfl
@[simp] theorem dLen_t : dLen [.tuple ds] = some (.int ds.length) := rfl
@[simp] theorem dList_l : dList [.list ds] = some (.list ds) := rfl
@[simp] theorem dList_t : dList [.tuple ds] = some (.list ds) := rfl
@[simp] theorem dTuple_l : dTuple [.list ds] = some (.tuple ds) := rfl
@[simp] theorem dTuple_t : dTuple [.tuple ds] = some (.tuple ds) := rfl
@[simp] theorem dRev_l : dRev [.list ds] = some (.list ds.reverse) := rfl
@[simp] theorem dCat_l : dCat [.list ds, .list es] = some d ↔ ds.length + es.length ≤ 1000000 ∧ d = .list (ds ++ es) := by
  unfold dCat
  dsimp only
  split
  · rename_i h
    exact ⟨fun e => ⟨h, by cases e; rfl⟩, fun e => by rw [e.2]⟩
  · rename_i h
    exact ⟨fun e => (by cases e), fun e => (h e.1).elim⟩
@[simp] theorem dAppend_l {x y : D} : dAppend (.list ds) [d] = some (x, y) ↔ ds.length < 1000000 ∧ x = .none ∧ y = .list (ds ++ [d]) := by
  unfold dAppend
  dsimp only
  split
  · rename_i h
    exact ⟨fun e => ⟨h, by cases e; exact ⟨rfl, rfl⟩⟩, fun e => by rw [e.2.1, e.2.2]⟩
  · rename_i h
    exact ⟨fun e => (by cases e), fun e => (h e.1).elim⟩
@[simp] theorem isTy_l : isTy "list" (.list ds) = true := rfl
@[simp] theorem dIs_int_i : dIs "int" [.int i] = some (.bool true) := rfl
@[simp] theorem dIs_bool_i : dIs "bool" [.int i] = some (.bool false) := rfl
@[simp] theorem dIs_list_l : dIs "list" [.list ds] = some (.bool true) := rfl
@[simp] theorem dIs_tuple_t : dIs "tuple" [.tuple ds] = some (.bool true) := rfl
@[simp] theorem dIx_l : dIx [.list ds, .int i] = atI ds i := rfl
@[simp] theorem dIx_t : dIx [.tuple ds, .int i] = atI ds i := rfl
@[simp] theorem atI_0 {α : Type} {x : α} {xs : List α} : atI (x :: xs) 0 = some x := atI_nat (j := 0) rfl
@[simp] theorem atI_1 {α : Type} {x y : α} {xs : List α} : atI (x :: y :: xs) 1 = some y := atI_nat (j := 1) rfl
@[simp] theorem atI_2 {α : Type} {x y z : α} {xs : List α} : atI (x :: y :: z :: xs) 2 = some z := atI_nat (j := 2) rfl
@[simp] theorem atI_3 {α : Type} {x y z u : α} {xs : List α} : atI (x :: y :: z :: u :: xs) 3 = some u := atI_nat (j := 3) rfl
@[simp] theorem dSlL_l {l h : Option Int} : dSlL (.list ds) l h = some (.list (cutG ds l h)) := rfl
@[simp] theorem dSlT_t {l h : Option Int} : dSlT (.tuple ds) l h = some (.tuple (cutG ds l h)) := rfl
@[simp] theorem mgN_e {ρ : En} {k : Nat} : mgN k d ρ = some (ρ.set k (some d)) := rfl
@[simp] theorem mgNil_e {ρ : En} : mgNil [] ρ = some ρ := rfl
@[simp] theorem mgCons_e {ρ : En} {g : MG} {r : List D → En → Option En} : mgCons g r (d :: ds) ρ = (g d ρ).bind (r ds) := rfl
@[simp] theorem mgT_e {ρ : En} {n : Nat} {r : List D → En → Option En} : mgT n r (.tuple ds) ρ = if ds.length = n then r ds ρ else none := rfl
@[simp] theorem mgL_e {ρ : En} {n : Nat} {r : List D → En → Option En} : mgL n r (.list ds) ρ = if ds.length = n then r ds ρ else none := rfl
@[simp] theorem dAll_b {bs : List Bool} : dAll [.list (bs.map PyData.bool)] = some (.bool (bs.all id)) := by
  have h : ∀ bs : List Bool, bools (bs.map PyData.bool) = some bs := fun bs => by
    induction bs with
    | nil => rfl
    | cons b bs ih =>
      show (bools (bs.map PyData.bool)).map _ = _
      rw [ih]
      rfl
  show (bools (bs.map PyData.bool)).map _ = _
  rw [h]
  rfl
end
structure Eq0 (n : Nat) (d : D) : Prop where
  lay : d.canLay0 = true
  nod : d.hasDict = false
  dep : d.depth ≤ n
theorem Eq0.ok {n : Nat} {d : D} (h : Eq0 n d) (hn : n ≤ 64 := by decide) : eqOk d = true := by
  unfold eqOk SeqAt.shaped
  rw [h.lay, h.nod, decide_eq_true (Nat.le_trans h.dep hn)]
  rfl
theorem Eq0.int {n : Nat} {i : Int} : Eq0 n (.int i) := ⟨rfl, rfl, by simp [PyData.depth]⟩
theorem Eq0.bool {n : Nat} {i : Bool} : Eq0 n (.bool i) := ⟨rfl, rfl, by simp [PyData.depth]⟩
theorem Eq0.none {n : Nat} : Eq0 n .none := ⟨rfl, rfl, by simp [PyData.depth]⟩
theorem eq0_all {n : Nat} : ∀ {ds : List D}, (∀ d, d ∈ ds → Eq0 n d) → PyData.canLayAll0 ds = true ∧ PyData.hasDictAll ds = false ∧ PyData.depthAll ds ≤ n
  | [], _ => ⟨rfl, rfl, Nat.zero_le _⟩
  | d :: ds, h => by
    obtain ⟨a, b, c⟩ := eq0_all fun d m => h d (List.mem_cons_of_mem _ m)
    have z := h d List.mem_cons_self
    refine ⟨?_, ?_, ?_⟩
    · rw [PyData.canLayAll0, z.lay, a]
      rfl
    · rw [PyData.hasDictAll, z.nod, b]
      rfl
    · rw [PyData.depthAll]
      exact Nat.max_le.mpr ⟨z.dep, c⟩
theorem Eq0.list {n : Nat} {ds : List D} (h : ∀ d, d ∈ ds → Eq0 n d) : Eq0 (n + 1) (.list ds) := by
  obtain ⟨a, b, c⟩ := eq0_all h
  exact ⟨by rw [PyData.canLay0]; exact a, by rw [PyData.hasDict]; exact b, by rw [PyData.depth]; omega⟩
theorem Eq0.tuple {n : Nat} {ds : List D} (h : ∀ d, d ∈ ds → Eq0 n d) : Eq0 (n + 1) (.tuple ds) := by
  obtain ⟨a, b, c⟩ := eq0_all h
  exact ⟨by rw [PyData.canLay0]; exact a, by rw [PyData.hasDict]; exact b, by rw [PyData.depth]; omega⟩
theorem Eq0.up {n m : Nat} {d : D} (h : Eq0 n d) (hn : n ≤ m) : Eq0 m d := ⟨h.lay, h.nod, Nat.le_trans h.dep hn⟩
theorem Eq0.ints {ns : List Int} : Eq0 1 (.list (ns.map PyData.int)) := .list fun d m => by
  obtain ⟨n, _, rfl⟩ := List.mem_map.mp m
  exact .int
section
variable {i j : Int} {n m : Nat} {d e x : D} {ds : List D}
@[simp] theorem dEq_i : dEq [.int i, .int j] = some (.bool (decide (i = j))) := by
  unfold dEq
  dsimp only
  rw [Eq0.ok (n := 0) Eq0.int, Eq0.ok (n := 0) Eq0.int, if_pos (by decide), PyData.eqv]
  rfl
@[simp] theorem dNe_i : dNe [.int i, .int j] = some (.bool (!decide (i = j))) := by
  unfold dNe
  dsimp only
  rw [Eq0.ok (n := 0) Eq0.int, Eq0.ok (n := 0) Eq0.int, if_pos (by decide), PyData.eqv]
  rfl
theorem dEq_nil (h : Eq0 n (.list ds)) (hn : n ≤ 64 := by decide) : dEq [.list ds, .list []] = some (.bool ds.isEmpty) := by
  unfold dEq
  dsimp only
  rw [h.ok hn, Eq0.ok (n := 1) (Eq0.list (n := 0) fun _ z => (List.not_mem_nil z).elim), if_pos (by decide)]
  cases ds <;> simp [PyData.eqv, PyData.eqvAll]
end
def lpK (f : Fl) (ρ : En) (K : En → Prop) (Q : Fl → En → Prop) : Prop := match f with
  | .nx => K ρ
  | .ct => K ρ
  | .bk => Q .nx ρ
  | .rt d => Q (.rt d) ρ
section
variable {ρ : En} {Q : Fl → En → Prop} {QD : D → En → Prop} {QI : List D → En → Prop} {d : D}
@[simp] theorem lpK_nx {K : En → Prop} : lpK .nx ρ K Q ↔ K ρ := Iff.rfl
@[simp] theorem lpK_ct {K : En → Prop} : lpK .ct ρ K Q ↔ K ρ := Iff.rfl
@[simp] theorem lpK_bk {K : En → Prop} : lpK .bk ρ K Q ↔ Q .nx ρ := Iff.rfl
@[simp] theorem lpK_rt {K : En → Prop} : lpK (.rt d) ρ K Q ↔ Q (.rt d) ρ := Iff.rfl
@[simp] theorem W_itS {m : M} : W (mItS m ρ) QI ↔ W (m ρ) fun d ρ1 => (∃ ds, (d = .list ds ∨ d = .tuple ds) ∧ QI ds ρ1) := by
  unfold mItS
  rw [W_bind]
  refine ⟨fun h => h.mono fun d ρ1 q => ?_, fun h => h.mono fun d ρ1 ⟨ds, e, q⟩ => ?_⟩
  · cases d <;> first | exact ⟨_, .inl rfl, W_some.mp q⟩ | exact ⟨_, .inr rfl, W_some.mp q⟩ | exact (W_none.mp q).elim
  · rcases e with e | e <;> rw [e] <;> exact W_some.mpr q
@[simp] theorem W_itL {m : M} : W (mItL m ρ) QI ↔ W (m ρ) fun d ρ1 => (∃ ds, d = .list ds ∧ QI ds ρ1) := by
  unfold mItL
  rw [W_bind]
  refine ⟨fun h => h.mono fun d ρ1 q => ?_, fun h => h.mono fun d ρ1 ⟨ds, e, q⟩ => ?_⟩
  · cases d <;> first | exact ⟨_, rfl, W_some.mp q⟩ | exact (W_none.mp q).elim
  · rw [e]
    exact W_some.mpr q
@[simp] theorem W_itB {i : Nat} : W (mItB i ρ) QI ↔ ∃ ds, at? ρ i = some (.list ds) ∧ QI ds ρ := by
  unfold mItB at?
  cases h : ρ[i]? with
  | none => simp
  | some o => cases o with
    | none => simp
    | some d => cases d <;> simp
@[simp] theorem W_rng1 {ma : MA} : W (mRng1 ma ρ) QI ↔ W (ma ρ) fun ds ρ1 => ∃ j, ds = [.int j] ∧ (-(2 ^ 62) ≤ j ∧ j < 2 ^ 62) ∧ QI (dRng 0 j.toNat) ρ1 := by
  unfold mRng1
  rw [W_bind]
  refine ⟨fun h => h.mono fun ds ρ1 q => ?_, fun h => h.mono fun ds ρ1 ⟨j, e, hj, q⟩ => ?_⟩
  · dsimp only at q
    split at q
    · rename_i j
      have q := W_ite.mp q
      split at q
      · rename_i hj
        exact ⟨j, rfl, hj, W_some.mp q⟩
      · exact (W_none.mp q).elim
    · exact (W_none.mp q).elim
  · subst e
    dsimp only
    rw [if_pos hj]
    exact W_some.mpr q
@[simp] theorem W_rng2 {ma : MA} : W (mRng2 ma ρ) QI ↔ W (ma ρ) fun ds ρ1 => ∃ i j, ds = [.int i, .int j] ∧ (-(2 ^ 62) ≤ i ∧ i < 2 ^ 62 ∧ -(2 ^ 62) ≤ j ∧ j < 2 ^ 62) ∧ QI (dRng i (j - i).toNat) ρ1 := by
  unfold mRng2
  rw [W_bind]
  refine ⟨fun h => h.mono fun ds ρ1 q => ?_, fun h => h.mono fun ds ρ1 ⟨i, j, e, hj, q⟩ => ?_⟩
  · dsimp only at q
    split at q
    · rename_i i j
      have q := W_ite.mp q
      split at q
      · rename_i hj
        exact ⟨i, j, rfl, hj, W_some.mp q⟩
      · exact (W_none.mp q).elim
    · exact (W_none.mp q).elim
  · subst e
    dsimp only
    rw [if_pos hj]
    exact W_some.mpr q
@[simp] theorem W_rng3 {ma : MA} : W (mRng3 ma ρ) QI ↔ W (ma ρ) fun ds ρ1 => ∃ i j c, ds = [.int i, .int j, .int c] ∧ rngOk i j c = true ∧ QI (dRngC i c (rngN i j c)) ρ1 := by
  unfold mRng3
  rw [W_bind]
  refine ⟨fun h => h.mono fun ds ρ1 q => ?_, fun h => h.mono fun ds ρ1 ⟨i, j, c, e, hj, q⟩ => ?_⟩
  · dsimp only at q
    split at q
    · rename_i i j c
      have q := W_ite.mp q
      split at q
      · rename_i hj
        exact ⟨i, j, c, rfl, hj, W_some.mp q⟩
      · exact (W_none.mp q).elim
    · exact (W_none.mp q).elim
  · subst e
    dsimp only
    rw [if_pos hj]
    exact W_some.mpr q
@[simp] theorem W_it2 {ks : List Ak} {ma : MA} {f : List D → Option (List D)} : W (mIt2 ks ma f ρ) QI ↔ W (ma ρ) fun ds ρ1 => ∃ es, fill ks ds ρ1 = some es ∧ ∃ z, f es = some z ∧ QI z ρ1 := by
  unfold mIt2
  rw [W_bind]
  refine ⟨fun h => h.mono fun ds ρ1 ⟨a, ρ', e, q⟩ => ?_, fun h => h.mono fun ds ρ1 ⟨es, e1, z, e2, q⟩ => ⟨z, ρ1, by rw [e1]; show (f es).map _ = _; rw [e2]; rfl, q⟩⟩
  obtain ⟨es, e1, e2⟩ := Option.bind_eq_some_iff.mp e
  obtain ⟨z, e3, e4⟩ := Option.map_eq_some_iff.mp e2
  cases e4
  exact ⟨es, e1, _, e3, q⟩
@[simp] theorem wipe_nil : wipeE ρ [] = ρ := rfl
@[simp] theorem wipe_cons {v : Nat} {vs : List Nat} : wipeE ρ (v :: vs) = (wipeE ρ vs).set v none := rfl
theorem rest_same {ρ' : En} {vs : List Nat} (h : wipeE ρ' vs = wipeE ρ vs) : restE ρ vs ρ' = ρ := by
  have hl : ρ'.length = ρ.length := by rw [← wipeE_len (vs := vs), h, wipeE_len]
  refine List.ext_getElem? fun i => ?_
  by_cases m : i ∈ vs
  · by_cases hi : i < ρ.length
    · have main : ∀ us : List Nat, i ∈ us → (restE ρ us ρ')[i]? = ρ[i]? := by
        intro us
        induction us with
        | nil => exact fun h => (List.not_mem_nil h).elim
        | cons v us ih =>
          intro hm
          show ((restE ρ us ρ').set v (ρ.getD v none))[i]? = _
          by_cases e : v = i
          · subst e
            rw [List.getElem?_set_self (by rw [restE_len, hl]; exact hi), List.getD_eq_getElem?_getD, List.getElem?_eq_getElem hi]
            rfl
          · rw [List.getElem?_set_ne e]
            exact ih ((List.mem_cons.mp hm).resolve_left fun z => e z.symm)
      exact main vs m
    · rw [List.getElem?_eq_none (by rw [restE_len]; omega), List.getElem?_eq_none (by omega)]
  · rw [restE_out m, ← wipeE_out (ρ := ρ') m, h, wipeE_out m]
theorem lcL {τ : Type} {u : τ → D} {F : τ → Option D} {g : MG} {t : MT} {e : M} {vs : List Nat} {B : En} : ∀ {xs : List τ} {acc : List D} {ρ : En}, wipeE ρ vs = B →
    (∀ x, x ∈ xs → ∃ ρ1, g (u x) B = some ρ1 ∧ W (t ρ1) fun b ρ2 => if b = true then W (e ρ2) fun y ρ3 => F x = some y ∧ wipeE ρ3 vs = B else F x = none ∧ wipeE ρ2 vs = B) →
    acc.length + xs.length ≤ 1000000 → ∃ ρ', mLcL (xs.map u) g t e vs acc ρ = some (acc ++ xs.filterMap F, ρ') ∧ wipeE ρ' vs = B
  | [], acc, ρ, hw, _, _ => ⟨ρ, by rw [List.filterMap_nil, List.append_nil]; rfl, hw⟩
  | x :: xs, acc, ρ, hw, hs, hl => by
    obtain ⟨ρ1, e1, b, ρ2, e2, q⟩ := hs x List.mem_cons_self
    have hl : acc.length + (xs.length + 1) ≤ 1000000 := hl
    show ∃ ρ', ((g (u x) (wipeE ρ vs)).bind _) = _ ∧ _
    rw [hw, e1]
    show ∃ ρ', ((t ρ1).bind _) = _ ∧ _
    rw [e2]
    show ∃ ρ', (if b = true then _ else _) = _ ∧ _
    split at q
    · rename_i hb
      obtain ⟨y, ρ3, e3, h1, h2⟩ := q
      rw [if_pos hb, e3]
      show ∃ ρ', (if acc.length < 1000000 then _ else _) = _ ∧ _
      rw [if_pos (by omega)]
      obtain ⟨ρ', h3, h4⟩ := lcL (xs := xs) (acc := acc ++ [y]) (ρ := ρ3) h2 (fun x m => hs x (List.mem_cons_of_mem _ m)) (by rw [List.length_append, List.length_singleton]; omega)
      refine ⟨ρ', ?_, h4⟩
      rw [List.filterMap_cons_some h1]
      show mLcL (xs.map u) g t e vs (acc ++ [y]) ρ3 = _
      rw [h3, List.append_assoc]
      rfl
    · rename_i hb
      obtain ⟨h1, h2⟩ := q
      rw [if_neg hb]
      obtain ⟨ρ', h3, h4⟩ := lcL (xs := xs) (acc := acc) (ρ := ρ2) h2 (fun x m => hs x (List.mem_cons_of_mem _ m)) (by omega)
      exact ⟨ρ', by rw [List.filterMap_cons_none h1]; exact h3, h4⟩
end
theorem orD_l {f g : List D → Option D} {ds : List D} {d : D} (h : f ds = some d) : orD f g ds = some d := by
  unfold orD
  rw [h]
  try rfl
theorem orD_r {f g : List D → Option D} {ds : List D} (h : f ds = none) : orD f g ds = g ds := by
  unfold orD
  rw [h]
  try rfl
section
variable {i j : Int} {ds es : List D} {Q : D → En → Prop} {QS : Fl → En → Prop} {ρ : En}
@[simp] theorem dAddU_i : dAddU [.int i, .int j] = some (.int (i + j)) := rfl
@[simp] theorem dIxU_l : dIxU [.list ds, .int i] = atI ds i := by
  unfold dIxU
  show orD dIx dDget _ = _
  unfold orD
  rw [dIx_l]
  cases atI ds i <;> rfl
@[simp] theorem dIxU_t : dIxU [.tuple ds, .int i] = atI ds i := by
  unfold dIxU
  show orD dIx dDget _ = _
  unfold orD
  rw [dIx_t]
  cases atI ds i <;> rfl
@[simp] theorem dLenU_l : dLenU [.list ds] = some (.int ds.length) := rfl
@[simp] theorem dLenU_t : dLenU [.tuple ds] = some (.int ds.length) := rfl
@[simp] theorem dEqU_i : dEqU [.int i, .int j] = some (.bool (decide (i = j))) := orD_l dEq_i
@[simp] theorem dNeU_i : dNeU [.int i, .int j] = some (.bool (!decide (i = j))) := orD_l dNe_i
theorem dEqU_nil {n : Nat} (h : Eq0 n (.list ds)) (hn : n ≤ 64 := by decide) : dEqU [.list ds, .list []] = some (.bool ds.isEmpty) := orD_l (dEq_nil h hn)
theorem divX_of {d : D} (hj : 0 < j) (hJ : j < 2 ^ 64) : dDivX [.int i, .int j] = some d ↔ d = .int (i / j) := by
  have hl : j.natAbs.log2 < 9000 := by
    have h0 : j.natAbs ≠ 0 := by omega
    have : j.natAbs < 2 ^ 64 := by omega
    have := (Nat.log2_lt h0).mpr this
    omega
  show opIc _ _ [.int i, .int j] = _ ↔ _
  unfold opIc
  simp only [decide_eq_true_eq]
  rw [if_pos ⟨by omega, hl⟩, Int.fdiv_eq_ediv_of_nonneg _ (by omega)]
  exact ⟨fun h => by cases h; rfl, fun h => by rw [h]⟩
@[simp] theorem dDivX_i {d : D} (hj : 0 < j) (hJ : j < 1073741824) : dDivX [.int i, .int j] = some d ↔ d = .int (i / j) := divX_of hj (by omega)
@[simp] theorem putU_l {d z : D} : putU (.list ds) (.int j) d = some z ↔ ∃ n, ixN ds.length j = some n ∧ z = .list (ds.set n d) := by
  show (ixN ds.length j).map _ = some z ↔ _
  rw [Option.map_eq_some_iff]
  exact ⟨fun ⟨n, h1, h2⟩ => ⟨n, h1, h2.symm⟩, fun ⟨n, h1, h2⟩ => ⟨n, h1, h2.symm⟩⟩
@[simp] theorem W_putU {k : Nat} {mi mv : M} : W (mPutU k mi mv ρ) QS ↔ W (mv ρ) fun v ρ1 => ∃ d, at? ρ1 k = some d ∧ W (mi ρ1) fun x ρ2 => ∃ c, at? ρ2 k = some c ∧ ∃ z, putU c x v = some z ∧ QS .nx (ρ2.set k (some z)) := by
  unfold mPutU
  rw [W_bind]
  refine ⟨fun h => h.mono fun v ρ1 q => ?_, fun h => h.mono fun v ρ1 q => ?_⟩
  · rw [W_bind, W_br] at q
    obtain ⟨d, h1, q⟩ := q
    refine ⟨d, h1, ?_⟩
    rw [W_bind] at q
    refine q.mono fun x ρ2 q => ?_
    unfold at?
    cases e : ρ2[k]? with
    | none =>
      simp only [e] at q
      exact (W_none.mp q).elim
    | some o =>
      cases o with
      | none =>
        simp only [e] at q
        exact (W_none.mp q).elim
      | some c =>
        simp only [e] at q
        cases e2 : putU c x v with
        | none =>
          rw [e2] at q
          exact (W_none.mp q).elim
        | some z =>
          rw [e2] at q
          exact ⟨c, rfl, z, e2, W_some.mp q⟩
  · obtain ⟨d, h1, q⟩ := q
    rw [W_bind, W_br]
    refine ⟨d, h1, ?_⟩
    rw [W_bind]
    refine q.mono fun x ρ2 ⟨c, h2, z, h3, h4⟩ => ?_
    unfold at? at h2
    cases e : ρ2[k]? with
    | none =>
      rw [e] at h2
      cases h2
    | some o =>
      rw [e] at h2
      have h2 : o = some c := h2
      subst h2
      exact ⟨_, _, by simp only [e]; rw [h3]; rfl, h4⟩
end
def mL_town : MS := (mRet (m2 (.ow) (.ow) (mLst (maCons (mC (.int 0)) maNil)) (mOp [.fz] (maCons (mVar 0) maNil) dList) dCat))
def fL_town : En → Option (D × En) := mFun [.fz] 0 .ow mL_town
def mL_draw : MS := (mSeq (mPutU 1 (mC (.int 0)) (m2 (.fz) (.fz) (m2 (.br 1) (.fz) (mBr 1) (mC (.int 0)) dIxU) (mC (.int 1)) dAddU))
  (mSeq (mIte (mTr (m2 (.fz) (.ow) (mVar 0) (mLst maNil) dEqU)) (mRet (m2 (.fz) (.fz) (m2 (.fz) (.fz) (m2 (.fz) (.fz) (m2 (.fz) (.fz) (m2 (.br 1) (.fz) (mBr 1) (mC (.int 0)) dIxU) (m2 (.br 1) (.fz) (mBr 1) (mC (.int 0)) dIxU) dMul) (mC (.int 7)) dMul) (mC (.int 3)) dDivX) (mVar 2) dMod)) mSkip)
  (mSeq (mSet 3 (m2 (.fz) (.fz) (m2 (.br 1) (.fz) (mBr 1) (mC (.int 0)) dIxU) (mOp [.fz] (maCons (mVar 0) maNil) dLenU) dMod))
  (mSeq (mSet 4 (m2 (.br 1) (.fz) (mBr 1) (m2 (.fz) (.fz) (mC (.int 1)) (mVar 3) dAddU) dIxU))
  (mSeq (mIte (mAnd (mTr (m2 (.fz) (.fz) (m2 (.fz) (.fz) (mVar 0) (mVar 3) dIxU) (m2 (.fz) (.fz) (mC (.int 10)) (mC (.int 18)) dPow) dGe)) (mTr (m2 (.fz) (.fz) (mVar 4) (mC (.int 0)) dGt))) (mSeq (mPutU 1 (m2 (.fz) (.fz) (mC (.int 1)) (mVar 3) dAddU) (m2 (.fz) (.fz) (mVar 4) (mVar 2) dDivX))
  (mRet (m2 (.fz) (.fz) (mVar 4) (mVar 2) dMod))) mSkip)
  (mSeq (mSet 5 (m2 (.fz) (.fz) (m2 (.fz) (.fz) (m2 (.fz) (.fz) (mVar 0) (mVar 3) dIxU) (m2 (.fz) (.fz) (mC (.int 104729)) (m2 (.br 1) (.fz) (mBr 1) (mC (.int 0)) dIxU) dMul) dAddU) (mC (.int 4294967291)) dMod))
  (mSeq (mSet 5 (m2 (.fz) (.fz) (m2 (.fz) (.fz) (mVar 5) (mC (.int 5)) dPow) (mC (.int 4294967279)) dMod))
  (mRet (m2 (.fz) (.fz) (m2 (.fz) (.fz) (m2 (.fz) (.fz) (m2 (.fz) (.fz) (m2 (.fz) (.fz) (m2 (.fz) (.fz) (mVar 5) (mC (.int 64)) dDivX) (mC (.int 69621)) dMul) (mVar 5) dAddU) (mC (.int 4294967231)) dMod) (mC (.int 8)) dDivX) (mVar 2) dMod)))))))))
def fL_draw : En → Option (D × En) := mFun [.fz, .io, .fz] 3 .fz mL_draw
abbrev dI (i : Int) : D := .int i
abbrev dL (ns : List Int) : D := .list (ns.map PyData.int)
def Town (ns : List Int) (k : Nat) (t : D) : Prop := ∃ (c : Int) (cs : List Int), t = dL (c :: cs) ∧ 0 ≤ c ∧ c ≤ k ∧ cs.length = ns.length
theorem Town.up {ns : List Int} {k k' : Nat} {t : D} (h : Town ns k t) (hk : k ≤ k') : Town ns k' t := by
  obtain ⟨c, cs, e, h1, h2, h3⟩ := h
  exact ⟨c, cs, e, h1, by omega, h3⟩
theorem map_set_int {ns : List Int} {n : Nat} {i : Int} : (ns.map PyData.int).set n (.int i) = (ns.set n i).map PyData.int := by
  rw [List.map_set]
theorem atI_ints {ns : List Int} {i : Int} (h0 : 0 ≤ i) (h1 : i < ns.length) : atI (ns.map PyData.int) i = some (.int (ns.getD i.toNat 0)) := by
  have e : i = (i.toNat : Int) := by omega
  have hl : i.toNat < ns.length := by omega
  rw [e, atI_nat (v := .int (ns.getD i.toNat 0))]
  · rfl
  · rw [List.getElem?_map, List.getD_eq_getElem?_getD, List.getElem?_eq_getElem hl]
    rfl
theorem ixN_int {n : Nat} {i : Int} (h0 : 0 ≤ i) (h1 : i < n) : ixN n i = some i.toNat := by
  have e : i = (i.toNat : Int) := by omega
  conv => lhs; rw [e]
  unfold ixN
  rw [if_pos (by omega), if_pos (by omega)]
  show some (i.toNat : Int).toNat = _
  rw [Int.toNat_natCast]
theorem town_ok {ns : List Int} (hn : ns.length ≤ 63) : W (fL_town [some (dL ns)]) fun d out => out = [none] ∧ Town ns 0 d := by
  unfold fL_town mL_town
  rw [W_fn]
  simp
  exact ⟨by omega, 0, ns, rfl, by omega, by omega, rfl⟩
theorem draw_ok {ns : List Int} {k : Nat} {t : D} {many : Int} (hT : Town ns k t) (hk : k < 1000000) (hm : 0 < many) (hM : many < 1073741824) :
    W (fL_draw [some (dL ns), some t, some (dI many)]) fun d out => ∃ r t', d = .int r ∧ 0 ≤ r ∧ r < many ∧ out = [none, some t', none] ∧ Town ns (k + 1) t' := by
  obtain ⟨c, cs, rfl, h1, h2, h3⟩ := hT
  have modlt : ∀ x : Int, 0 ≤ x % many ∧ x % many < many := fun x => ⟨Int.emod_nonneg _ (by omega), Int.emod_lt_of_pos _ hm⟩
  generalize hQ : (fun (d : D) (out : En) => ∃ r t', d = .int r ∧ 0 ≤ r ∧ r < many ∧ out = [none, some t', none] ∧ Town ns (k + 1) t') = Q
  have fin : ∀ (x : Int) (cs' : List Int), cs'.length = ns.length → Q (.int (x % many)) [none, some (dL ((c + 1) :: cs')), none] := fun x cs' hl => by
    rw [← hQ]
    exact ⟨_, _, rfl, (modlt x).1, (modlt x).2, rfl, c + 1, cs', rfl, by omega, by omega, hl⟩
  have finL : ∀ (x : Int) (ds : List D) (cs' : List Int), ds = cs'.map PyData.int → cs'.length = ns.length → Q (.int (x % many)) [none, some (.list (.int (c + 1) :: ds)), none] := fun x ds cs' e hl => by
    rw [e]
    exact fin x cs' hl
  unfold fL_draw mL_draw
  rw [W_fn, W_seq]
  simp
  rw [W_seq]
  simp [dEqU_nil Eq0.ints]
  cases ns with
  | nil =>
    simp [hm]
    refine ⟨mulOk_of (by omega) (by omega), mulOk_of ?_ (by omega), finL _ _ cs rfl h3⟩
    rw [Int.natAbs_mul]
    exact Nat.lt_of_le_of_lt (Nat.mul_le_mul (show (c + 1).natAbs ≤ 1000001 by omega) (show (c + 1).natAbs ≤ 1000001 by omega)) (by decide)
  | cons n0 ns0 =>
    have hl : (0 : Int) < ↑ns0.length + 1 := by omega
    have hl3 : cs.length = ns0.length + 1 := h3
    simp
    rw [W_seq]
    simp [hl]
    have p1 := Int.emod_nonneg (c + 1) (show ((ns0.length : Int) + 1) ≠ 0 by omega)
    have p2 := Int.emod_lt_of_pos (c + 1) hl
    generalize (c + 1) % ((ns0.length : Int) + 1) = at_ at p1 p2 ⊢
    have h5 : atI (PyData.int (c + 1) :: cs.map PyData.int) (1 + at_) = some (.int (((c + 1) :: cs).getD (1 + at_).toNat 0)) := atI_ints (ns := (c + 1) :: cs) (by omega) (by rw [List.length_cons]; omega)
    generalize ((c + 1) :: cs).getD (1 + at_).toNat 0 = left at h5
    have h6 : atI (PyData.int n0 :: ns0.map PyData.int) at_ = some (.int ((n0 :: ns0).getD at_.toNat 0)) := atI_ints (ns := n0 :: ns0) (by omega) (by rw [List.length_cons]; omega)
    generalize (n0 :: ns0).getD at_.toNat 0 = cell at h6
    rw [W_seq]
    simp [h5]
    rw [W_seq]
    simp [h6]
    have rest : ∀ ρ : En, ρ = [some (dL (n0 :: ns0)), some (.list (.int (c + 1) :: cs.map PyData.int)), some (dI many), some (dI at_), some (dI left), none] → W (mSeq (mSet 5 (m2 (.fz) (.fz) (m2 (.fz) (.fz) (m2 (.fz) (.fz) (mVar 0) (mVar 3) dIxU) (m2 (.fz) (.fz) (mC (.int 104729)) (m2 (.br 1) (.fz) (mBr 1) (mC (.int 0)) dIxU) dMul) dAddU) (mC (.int 4294967291)) dMod))
  (mSeq (mSet 5 (m2 (.fz) (.fz) (m2 (.fz) (.fz) (mVar 5) (mC (.int 5)) dPow) (mC (.int 4294967279)) dMod))
  (mRet (m2 (.fz) (.fz) (m2 (.fz) (.fz) (m2 (.fz) (.fz) (m2 (.fz) (.fz) (m2 (.fz) (.fz) (m2 (.fz) (.fz) (mVar 5) (mC (.int 64)) dDivX) (mC (.int 69621)) dMul) (mVar 5) dAddU) (mC (.int 4294967231)) dMod) (mC (.int 8)) dDivX) (mVar 2) dMod))) ρ) (fnK [.fz, .io, .fz] .fz Q) := by
      rintro ρ rfl
      rw [W_seq]
      simp [h6]
      have q1 := Int.emod_nonneg (cell + 104729 * (c + 1)) (show (4294967291 : Int) ≠ 0 by decide)
      have q2 := Int.emod_lt_of_pos (cell + 104729 * (c + 1)) (show (0 : Int) < 4294967291 by decide)
      generalize (cell + 104729 * (c + 1)) % 4294967291 = x at q1 q2 ⊢
      refine ⟨mulOk_of (by omega) (by omega), ?_⟩
      rw [W_seq]
      simp
      refine ⟨by omega, ?_⟩
      have q3 := Int.emod_nonneg (x ^ 5) (show (4294967279 : Int) ≠ 0 by decide)
      have q4 := Int.emod_lt_of_pos (x ^ 5) (show (0 : Int) < 4294967279 by decide)
      generalize x ^ 5 % 4294967279 = y at q3 q4 ⊢
      simp [hm]
      exact ⟨mulOk_of (by omega) (by omega), finL _ _ cs rfl h3⟩
    by_cases z1 : (10 : Int) ^ 18 ≤ cell <;> by_cases z2 : (0 : Int) < left
    all_goals simp at z1
    all_goals simp [z1, z2]
    · refine .inr (.inr ?_)
      rw [W_seq]
      simp [hm, hM]
      refine ⟨_, ⟨(1 + at_).toNat, ixN_int (by omega) (by omega), rfl⟩, ?_⟩
      have e : (1 + at_).toNat = at_.toNat + 1 := by omega
      rw [e, List.set_cons_succ, map_set_int]
      exact finL _ _ _ rfl (by rw [List.length_set]; exact h3)
    all_goals first | exact rest _ rfl | exact .inl (rest _ rfl) | exact .inl ⟨by omega, rest _ rfl⟩ | exact .inr ⟨by omega, rest _ rfl⟩ | exact .inr (.inl ⟨by omega, rest _ rfl⟩)
section
variable {ρ ρ1 ρ2 : En} {a b : MS} {c : MT} {m : M} {d : D} {i : Nat} {ma : MA} {ks : List Ak} {dd ds es : List D} {mf : En → Option (D × En)} {o : En}
theorem E_seq (h : a ρ = some (.nx, ρ1)) : mSeq a b ρ = b ρ1 := by
  show (a ρ).bind _ = _
  rw [h]
  rfl
end
end DL
namespace L2
open PySem PySem.Spec PyProof.Rows
def dstI (ns : List Int) : Nat := (PyProof.Rows.firstMet (fun i => ns.getD i 0) ns.length).length
def tLenSetJ (K : PySem.W.Frag) (ta : TE) : TE := fun σ H Q => ta σ H fun x H1 => ∃ (l : Addr) (ns : List Int), x = V.ref l ∧ SqL K H1 l (ns.map V.int) ∧ ns.length < 64 ∧ Q (.int (dstI ns)) H1
section
variable {X : Cx}
theorem pe_lenSetJ {a : Expr} {ta : TE} {p p2 q pos : Pos} (hc : X.calm = true) (hg : Gl X "len") (hm : X.mg "len" = none) (hg2 : Gl X "set") (hm2 : X.mg "set" = none) (ha : PE X a ta)
    (na : starEach [a] X.env = (false, eval a X.env) :: starEach [] X.env := by rfl) : PE X (.Call (.Name "len" p) [.Call (.Name "set" p2) [a] [] q] [] pos) (tLenSetJ X.K ta) := by
  refine ⟨fun pins s σ H Q I h => ?_⟩
  refine Call_ (ld_blt I hg hm PySem.boot_len ?_)
  refine PyProof.Rows.callWith_builtin1 (PyProof.Rows.args_cons ?_ rfl) rfl rfl
  refine Call_ (ld_blt I hg2 hm2 PyProof.Rows.boot_set ?_)
  refine PyProof.Rows.callWith_type1 (PyProof.Rows.args_cons (thn (ha.run pins s σ H _ I h) fun v s1 ⟨x, H1, I1, r1, q1⟩ => PyProof.Rows.args_nil ?_) na) na rfl
  obtain ⟨l, ns, rfl, hq, h1, q1⟩ := q1
  cases r1
  obtain ⟨its, r, pl, hz⟩ := I1.list hq
  have hl : its.toArray.size = ns.length := by rw [List.size_toArray, ← r.length, List.length_map]
  refine call_set_list (I1.ok.hd hc) pl.isList (ns := ns) (by simpa using r.ints) (by unfold scanBound; omega) fun h' tk hS hk => ?_
  rw [hl] at hS
  refine PyProof.Rows.args_nil ?_
  obtain ⟨o, es, ep, t, ho, hex, hd, _, _, _, hf, hn⟩ := hS
  have I2 : Inv X pins σ H1 { s1 with heap := h', toks := tk } := I1.kept fun b o e => hk b o (Heap.lt_size e) e
  have le := firstMet_length_le (fun i => ns.getD i 0) ns.length
  refine call_len_set ho hex hd hf (by rw [hn] <;> omega) ⟨.int (dstI ns), H1, I2.tok _, ⟨_, by rw [hn]; rfl⟩, q1⟩
end
end L2
namespace DL
open PySem PySem.Spec PyProof.Rows L2
def dLenSetA : D → Option D
  | .list ds => (intsD ds).bind fun ns => if ns.length < 64 then some (.int (dstI ns : Nat)) else none
  | _ => none
def mLenSetA (m : M) : M := fun ρ => (m ρ).bind fun p => (dLenSetA p.1).map fun d => (d, p.2)
section
variable {X : Cx} {O : List Kd} {pos p p2 q : Pos} {a : Expr} {m : M} {ma : MA} {ks : List Ak}
theorem e_lenSetA (B : Bt X.mg) (hc : X.calm = true) (ha : PE X a (tE X.K O m .fz)) (hg : Gl X "len" := by rfl) (hg2 : Gl X "set" := by rfl) (na : starEach [a] X.env = (false, eval a X.env) :: starEach [] X.env := by rfl) :
    PE X (.Call (.Name "len" p) [.Call (.Name "set" p2) [a] [] q] [] pos) (tE X.K O (mLenSetA m) .fz) := by
  refine PEi (L2.pe_lenSetJ hc hg B.len hg2 B.set ha na) fun σ H Q ⟨F, ρ, d, ρ', ok, hm, q⟩ => ?_
  obtain ⟨⟨d1, ρ1⟩, e1, e2⟩ := bind_some hm
  obtain ⟨d2, e3, e4⟩ := map_some e2
  cases e4
  cases d1 <;> first | (cases e3; done) | skip
  rename_i ds
  obtain ⟨ns, h1, e5⟩ := Option.bind_eq_some_iff.mp e3
  split at e5
  · rename_i hn
    cases e5
    refine ⟨F, ρ, _, _, ok, e1, fun v F1 H1 ok1 st1 r1 => ?_⟩
    obtain ⟨l, xs, rfl, g2, g3⟩ := r1
    have e := intsD_v h1 g3
    subst e
    exact ⟨l, ns, rfl, ok1.sub.seq g2, hn, q _ F1 H1 ok1 st1 rfl⟩
  · cases e5
theorem dst_nodup {ns : List Int} (h : ns.Nodup) : dstI ns = ns.length := by
  unfold dstI
  rw [firstMet_nodup ns h ns.length (Nat.le_refl _), List.take_length]
theorem dst_again {ns : List Int} {z : Int} (h : ns.Nodup) (hz : z ∈ ns) : dstI (ns ++ [z]) = ns.length := by
  unfold dstI
  rw [List.length_append, List.length_singleton, PyProof.Rows.firstMet_succ]
  have e : PyProof.Rows.firstMet (fun i => (ns ++ [z]).getD i 0) ns.length = ns := by
    have e1 : ∀ k, k ≤ ns.length → PyProof.Rows.firstMet (fun i => (ns ++ [z]).getD i 0) k = PyProof.Rows.firstMet (fun i => ns.getD i 0) k := fun k hk => by
      unfold PyProof.Rows.firstMet
      congr 1
      refine List.map_congr_left fun i hi => ?_
      have := List.mem_range.mp hi
      simp only [List.getD_eq_getElem?_getD]
      rw [List.getElem?_append_left (by omega)]
    rw [e1 _ (Nat.le_refl _), firstMet_nodup ns h ns.length (Nat.le_refl _), List.take_length]
  have ez : (ns ++ [z]).getD ns.length 0 = z := by
    simp [List.getD_eq_getElem?_getD]
  rw [e, ez]
  unfold PyProof.Rows.step_dedup
  have ha : (ns.any (· == z)) = true := List.any_eq_true.mpr ⟨z, hz, by simp⟩
  first
    | rw [if_pos ha]
    | (rw [ha]; rfl)
    | (split <;> first | rfl | (rename_i h; exact absurd ha h))
end
structure FnXN (P : Program) (w : World) (K : PySem.W.Frag) (mg : Str → Option Value) (base : Heap) (x : Str) (k : Nat) (ps : List Str) (sp : Sp) (n : Nat) (ks : List Str) (gD : List D → List D) : Prop where
  ex : ∃ (f : Addr) (fd : FuncData) (g : List Value → List Value → List Value) (gV : List V → List V), FnG P w K mg base CX0 k f fd ps sp ∧ mg x = some (.ref f) ∧ PySem.W.keepIn K (.ref f) = true ∧ KBn K fd ps n ks g (fun vs zs => vs ++ gV zs) ∧
    ∀ (F : Hp) (es : List D) (zs : List V), es.length = ks.length → RpA K F es zs → RpA K F (gD es) (gV zs)
section
variable {P : Program} {w : World} {K : PySem.W.Frag} {mg : Str → Option Value} {base : Heap} {x : Str} {j k n : Nat} {ps ns : List Str} {sp : Sp} {gD : List D → List D}
theorem FnXN.up (h : FnXN P w K mg base x j ps sp n ns gD) (hjk : j ≤ k) : FnXN P w K mg base x k ps sp n ns gD := by
  obtain ⟨f, fd, g, gV, G, h1, h2, h3, h4⟩ := h.ex
  exact ⟨f, fd, g, gV, G.up hjk, h1, h2, h3, h4⟩
end
section
variable {K : PySem.W.Frag} {O : List Kd} {w w' : Wd}
theorem Rss.app : ∀ {ks kz : List Ak} {ds es : List D} {vs zs : List V}, Rss K O w w' ks ds vs → Rss K O w w' kz es zs → Rss K O w w' (ks ++ kz) (ds ++ es) (vs ++ zs)
  | [], _, _, _, _, _, ⟨h1, h2⟩, h => by
    subst h1 h2
    exact h
  | k :: ks, kz, _, es, _, zs, ⟨d, ds', v, vs', h1, h2, h3, h4⟩, h => by
    subst h1 h2
    exact ⟨d, ds' ++ es, v, vs' ++ zs, rfl, rfl, h3, h4.app h⟩
end
section
variable {X : Cx} {CX : CXT} {j k n : Nat} {f : Addr} {fd : FuncData} {ps ns : List Str} {sp : Sp} {E : XK} {x : Str} {p pos : Pos} {e : Expr} {es : List Expr} {kws : List Keyword} {t tk : TA} {g : List Value → List Value → List Value} {gV : List V → List V → List V}
end
section
variable {X : Cx} {j k n : Nat} {ps ns : List Str} {O Oi : List Kd} {mf : En → Option (D × En)} {r : Ak} {x : Str} {p pos : Pos} {e : Expr} {es : List Expr} {kws : List Keyword} {ma mk : MA} {ks kk kz : List Ak} {gD : List D → List D}
end
abbrev Rx := D ⊕ Str
abbrev MX := En → Option (Rx × En)
abbrev MSX := En → Option ((Fl ⊕ Str) × En)
def tEx (K : PySem.W.Frag) (O : List Kd) (W : WX) (m : MX) (k : Ak) : TE := fun σ H Q => ∃ F ρ z ρ', Ok K O ⟨F, H, σ, ρ⟩ ∧ m ρ = some (z, ρ') ∧ (match z with
  | .inl d => ∀ v F' H', Ok K O ⟨F', H', σ, ρ'⟩ → Stp O ⟨F, H, σ, ρ⟩ ⟨F', H', σ, ρ'⟩ → Rs K O ⟨F, H, σ, ρ⟩ ⟨F', H', σ, ρ'⟩ k d v → Q v H'
  | .inr c => ∀ F' H', Ok K O ⟨F', H', σ, ρ'⟩ → Stp O ⟨F, H, σ, ρ⟩ ⟨F', H', σ, ρ'⟩ → W (clsV K c) none σ H')
def tSx (K : PySem.W.Frag) (O : List Kd) (W : WX) (m : MSX) (r : Ak) : TS := fun Dn σ H => ∃ F ρ z ρ', Ok K O ⟨F, H, σ, ρ⟩ ∧ m ρ = some (z, ρ') ∧ (match z with
  | .inl .nx => ∀ σ' F' H', Ok K O ⟨F', H', σ', ρ'⟩ → StpS O ⟨F, H, σ, ρ⟩ ⟨F', H', σ', ρ'⟩ → Dn.nx σ' H'
  | .inl .bk => ∀ σ' F' H', Ok K O ⟨F', H', σ', ρ'⟩ → StpS O ⟨F, H, σ, ρ⟩ ⟨F', H', σ', ρ'⟩ → Dn.bk σ' H'
  | .inl .ct => ∀ σ' F' H', Ok K O ⟨F', H', σ', ρ'⟩ → StpS O ⟨F, H, σ, ρ⟩ ⟨F', H', σ', ρ'⟩ → Dn.ct σ' H'
  | .inl (.rt d) => ∀ v σ' F' H', Ok K O ⟨F', H', σ', ρ'⟩ → StpS O ⟨F, H, σ, ρ⟩ ⟨F', H', σ', ρ'⟩ → Rs K O ⟨F, H, σ, ρ⟩ ⟨F', H', σ', ρ'⟩ r d v → Dn.rt v H'
  | .inr c => ∀ σ' F' H', Ok K O ⟨F', H', σ', ρ'⟩ → StpS O ⟨F, H, σ, ρ⟩ ⟨F', H', σ', ρ'⟩ → W (clsV K c) none σ' H')
def spX (K : PySem.W.Frag) (Oi : List Kd) (mf : MX) (r : Ak) : Sp := fun vs H Q E => tEx K Oi (fun c d _ H' => E c d H') mf r (vs.map some) H Q
def xS (m : MS) : MSX := fun ρ => (m ρ).map fun p => (.inl p.1, p.2)
def mCallX (mf : MX) (ks : List Ak) (dd : List D) (ma : MA) : MX := fun ρ => (ma ρ).bind fun p => (fill ks p.1 p.2).bind fun es => (mf ((es ++ dd).map some)).map fun q => (q.1, putB ks q.2 p.2)
def mDropX (m : MX) : MSX := fun ρ => (m ρ).map fun p => (match p.1 with
  | .inl _ => .inl .nx
  | .inr c => .inr c, p.2)
def mRetX (m : MX) : MSX := fun ρ => (m ρ).map fun p => (match p.1 with
  | .inl d => .inl (.rt d)
  | .inr c => .inr c, p.2)
def mSetX (i : Nat) (m : MX) : MSX := fun ρ => (m ρ).map fun p => (match p.1 with
  | .inl d => (.inl .nx, p.2.set i (some d))
  | .inr c => (.inr c, p.2))
def mIteX (t : MT) (a b : MSX) : MSX := fun ρ => (t ρ).bind fun p => if p.1 = true then a p.2 else b p.2
def mSeqX (a b : MSX) : MSX := fun ρ => (a ρ).bind fun p => match p.1 with
  | .inl .nx => b p.2
  | f => some (f, p.2)
def mRaiseX (c : Str) : MSX := fun ρ => some (.inr c, ρ)
def mFunX (Oi : List Kd) (n : Nat) (r : Ak) (b : MSX) : MX := fun ρ => (b (ρ ++ List.replicate n none)).bind fun p => match p.1 with
  | .inl (.rt d) => some (.inl d, outE Oi p.2)
  | .inl .nx => (match r with
    | .fz => some (.inl .none, outE Oi p.2)
    | _ => none)
  | .inr c => some (.inr c, outE Oi p.2)
  | _ => none
structure FnXx (P : Program) (w : World) (K : PySem.W.Frag) (mg : Str → Option Value) (base : Heap) (x : Str) (k : Nat) (ps : List Str) (sp : Sp) : Prop where
  ex : ∃ (f : Addr) (fd : FuncData), FnG P w K mg base (L2.CX P w) k f fd ps sp ∧ mg x = some (.ref f) ∧ PySem.W.keepIn K (.ref f) = true ∧ Binds K fd ps []
section
variable {X : Cx} {K : PySem.W.Frag} {O Oi Ol : List Kd} {W : WX} {e a b : Expr} {es : List Expr} {st : Stmt} {rest sts : List Stmt} {m mb : M} {mx my : MX} {ma : MA} {ms : MS} {sa sb : MSX} {mf : MX} {t : MT} {ks : List Ak} {r k : Ak} {x : Str} {p pos : Pos} {j n i : Nat} {ps : List Str} {dd : List D} {dvs : List V} {ds : List Value} {tc : Expr}
theorem xS_to {Dn : Ends} {σ : L2.St} {H : Hp} (h : tSx K O W (xS ms) r Dn σ H) : tS K O ms r Dn σ H := by
  obtain ⟨F, ρ, z, ρ', ok, hm, q⟩ := h
  obtain ⟨⟨d, ρ1⟩, e1, e2⟩ := map_some hm
  cases e2
  refine ⟨F, ρ, d, _, ok, e1, ?_⟩
  cases d <;> exact q
theorem ps_nox {ts : TS} (h : PS X.nox st ts) : PS X st ts := ⟨fun pins s σ H D I hw =>
  wpAny_mono (h.run pins s σ H D (I.wish _) hw) (fun _ _ q => q.unwish) fun _ _ z => False.elim z⟩
theorem x_s (h : PS X.nox st (tS X.K O ms r)) : PS X st (tSx X.K O W (xS ms) r) := PSi (ps_nox h) fun _ _ _ h => xS_to h
theorem x_nil : PSs X [] (tSx X.K O W (xS mSkip) r) := PSsi s_nil fun _ _ _ h => xS_to h
theorem x_expr (h : PE X e (tEx X.K O W mx k)) (hs : swapsWith e none pos.line X.env = pure false := by rfl) : PS X (.Expr e pos) (tSx X.K O W (mDropX mx) r) := by
  refine PSi (ps_expr h hs) fun Dn σ H ⟨F, ρ, z, ρ', ok, hm, q⟩ => ?_
  obtain ⟨⟨d, ρ1⟩, e1, e2⟩ := map_some hm
  cases e2
  refine ⟨F, ρ, d, _, ok, e1, ?_⟩
  cases d with
  | inl d => exact fun v F1 H1 ok1 st1 _ => q σ F1 H1 ok1 st1
  | inr c => exact fun F1 H1 ok1 st1 => q σ F1 H1 ok1 st1
theorem x_ret (h : PE X e (tEx X.K O W mx r)) : PS X (.Return (some e) pos) (tSx X.K O W (mRetX mx) r) := by
  refine PSi (ps_ret h) fun Dn σ H ⟨F, ρ, z, ρ', ok, hm, q⟩ => ?_
  obtain ⟨⟨d, ρ1⟩, e1, e2⟩ := map_some hm
  cases e2
  refine ⟨F, ρ, d, _, ok, e1, ?_⟩
  cases d with
  | inl d => exact fun v F1 H1 ok1 st1 r1 => q v σ F1 H1 ok1 st1 r1
  | inr c => exact fun F1 H1 ok1 st1 => q σ F1 H1 ok1 st1
theorem x_setF (i : Nat) {pos' : Pos} (hN : X.N.Nodup) (he : PE X e (tEx X.K O W mx .fz)) (hO : O[i]? = some Kd.fz := by rfl) (hl : i < nl O := by decide) (h0 : hasO O = false ∨ i ≠ oi O := by decide) (hi : X.N[i]? = some x := by rfl) (hx : Loc X.env.scope x := by first | exact Or.inl rfl | exact Or.inr rfl) (hs : swapsWith e (some (.Name x pos')) pos.line X.env = pure false := by rfl) (hf : X.fn x = true ∨ X.env.scope.names.lookup x = some .local := by first | exact .inl rfl | exact .inr rfl | assumption) :
    PS X (.Assign [.Name x pos'] e pos) (tSx X.K O W (mSetX i mx) r) := by
  refine PSi (ps_set hN hi hx he hs hf) fun Dn σ H ⟨F, ρ, z, ρ', ok, hm, q⟩ => ?_
  obtain ⟨⟨d, ρ1⟩, e1, e2⟩ := map_some hm
  refine ⟨F, ρ, d, ρ1, ok, e1, ?_⟩
  cases d with
  | inl d =>
    cases e2
    intro v F1 H1 ok1 st1 r1
    obtain ⟨h1, h2⟩ := ok1.setFz hO hl h0 r1
    exact q _ F1 H1 h1 (st1.trans h2)
  | inr c =>
    cases e2
    exact fun F1 H1 ok1 st1 => q σ F1 H1 ok1 st1
theorem x_ite {A B : List Stmt} (hc : PT X.nox tc (tT X.K O t)) (ha : PSs X A (tSx X.K O W sa r)) (hb : PSs X B (tSx X.K O W sb r)) : PS X (.If tc A B pos) (tSx X.K O W (mIteX t sa sb) r) := by
  refine PSi (ps_if hc.nox ha hb) fun Dn σ H ⟨F, ρ, z, ρ', ok, hm, q⟩ => ?_
  obtain ⟨⟨c1, ρ1⟩, e1, e2⟩ := bind_some hm
  refine ⟨F, ρ, c1, ρ1, ok, e1, fun F1 H1 ok1 st1 => ?_⟩
  have fin : ∀ {m' : MSX}, m' ρ1 = some (z, ρ') → tSx X.K O W m' r Dn σ H1 := fun h2 => by
    refine ⟨F1, ρ1, z, ρ', ok1, h2, ?_⟩
    cases z with
    | inl f =>
      cases f with
      | nx => exact fun σ2 F2 H2 ok2 st2 => q σ2 F2 H2 ok2 (st1.toStpS.trans st2)
      | bk => exact fun σ2 F2 H2 ok2 st2 => q σ2 F2 H2 ok2 (st1.toStpS.trans st2)
      | ct => exact fun σ2 F2 H2 ok2 st2 => q σ2 F2 H2 ok2 (st1.toStpS.trans st2)
      | rt d => exact fun v σ2 F2 H2 ok2 st2 r2 => q v σ2 F2 H2 ok2 (st1.toStpS.trans st2) (r2.pre st1)
    | inr c => exact fun σ2 F2 H2 ok2 st2 => q σ2 F2 H2 ok2 (st1.toStpS.trans st2)
  cases c1 with
  | true => exact fin (m' := sa) e2
  | false => exact fin (m' := sb) e2
theorem x_cons (h1 : PS X st (tSx X.K O W sa r)) (h2 : PSs X rest (tSx X.K O W sb r)) : PSs X (st :: rest) (tSx X.K O W (mSeqX sa sb) r) := by
  refine PSsi (pss_cons h1 h2) fun Dn σ H ⟨F, ρ, z, ρ', ok, hm, q⟩ => ?_
  obtain ⟨⟨f1, ρ1⟩, e1, e2⟩ := bind_some hm
  refine ⟨F, ρ, f1, ρ1, ok, e1, ?_⟩
  cases f1 with
  | inl f1 =>
    cases f1 with
    | nx =>
      intro σ1 F1 H1 ok1 st1
      refine ⟨F1, ρ1, z, ρ', ok1, e2, ?_⟩
      cases z with
      | inl f =>
        cases f with
        | nx => exact fun σ2 F2 H2 ok2 st2 => q σ2 F2 H2 ok2 (st1.trans st2)
        | bk => exact fun σ2 F2 H2 ok2 st2 => q σ2 F2 H2 ok2 (st1.trans st2)
        | ct => exact fun σ2 F2 H2 ok2 st2 => q σ2 F2 H2 ok2 (st1.trans st2)
        | rt d => exact fun v σ2 F2 H2 ok2 st2 r2 => q v σ2 F2 H2 ok2 (st1.trans st2) (r2.pre st1)
      | inr c => exact fun σ2 F2 H2 ok2 st2 => q σ2 F2 H2 ok2 (st1.trans st2)
    | bk =>
      cases e2
      exact q
    | ct =>
      cases e2
      exact q
    | rt d =>
      cases e2
      exact q
  | inr c =>
    cases e2
    exact q
theorem x_one (h1 : PS X st (tSx X.K O W sa r)) : PSs X [st] (tSx X.K O W sa r) := pss_one h1
theorem pss_never {sts : List Stmt} {ts : TS} (h : ∀ D σ H, ¬ ts D σ H) : PSs X sts ts := ⟨fun _ _ σ H D _ hw => (h D σ H hw).elim⟩
theorem x_raise {c : Str} (hc : X.calm = true) (tk : Takes X W) (he : PMk X e fun _ H Q => Q (clsV X.K c) none H) : PS X (.Raise (some e) none pos) (tSx X.K O W (mRaiseX c) r) := by
  refine PSi (ps_raise hc tk he) fun Dn σ H ⟨F, ρ, z, ρ', ok, hm, q⟩ => ?_
  cases hm
  exact q σ F H ok (StpS.refl _ _)
theorem goFnX {CX : CXT} {f : Addr} {fd : FuncData} {sp : Sp} {E : L2.St → XK} {pins : List (Addr × Obj)} {σ : L2.St} {H : Hp} {s : Shared} {Q : VK} {us : List Value} {vs : List V} (G : FnG X.prog X.w X.K X.mg X.base CX j f fd ps sp) (hgd : X.A.guards = some []) (hr : Room j X.A) (hb : Binds X.K fd ps ds) (hd : Vals dvs ds)
    (hx : PassesAt CX X σ (E σ)) (I : Inv X pins σ H s) (r : Vals vs us) (h : sp (vs ++ dvs) H Q (E σ)) : wpAny (model X.prog X.w) X.A (call (.ref f) us) (EP X pins σ Q) X.xe s := by
  have both : Vals (vs ++ dvs) (us ++ ds) := r.append hd
  have cnt : (us ++ ds).length = ps.length := both.length.symm.trans (G.ar _ _ _ _ h)
  refine wpAny_call (codeAny_mono (G.go X.A X.stack s H ⟨us, []⟩ (us ++ ds) (vs ++ dvs) Q (E σ) hgd hr I.env0 (hb s us I.kIn cnt) both h) fun res s' hq => ?_)
  rcases res with e | fl
  · exact hx pins H s e s' I hq
  · cases fl with
    | ret u => exact I.after hq
    | next => exact hq.elim
    | brk => exact hq.elim
    | cont => exact hq.elim
theorem pe_callX {f : Addr} {fd : FuncData} {sp : Sp} {E : L2.St → XK} {ta : TA} {CX : CXT} (G : FnG X.prog X.w X.K X.mg X.base CX j f fd ps sp) (hgd : X.A.guards = some []) (hr : Room j X.A) (hm : X.mg x = some (.ref f)) (hk : PySem.W.keepIn X.K (.ref f) = true) (hb : Binds X.K fd ps ds) (hd : Vals dvs ds) (hx : ∀ σ, PassesAt CX X σ (E σ))
    (ha : PA X (e :: es) ta) (hg : Gl X x := by rfl) (hdb : (x == ("__debug__" : Str)) = false := by decide) (he : starEach (e :: es) X.env = (false, eval e X.env) :: starEach es X.env := by rfl) (hpl : (backTo pos (starEach es X.env)).any (·.1) = false := by rfl) :
    PE X (.Call (.Name x p) (e :: es) [] pos) (fun σ H Q => ta σ H fun vs H1 => sp (vs ++ dvs) H1 Q (E σ)) := ⟨fun pins s σ H Q I h => wpAny_Call_Name_kw (ld_glob I hg hm
      (PySem.W.callWith_K (h₀ := X.base) I.ok.mod.kin hk (thn (ha.run pos pins s σ H _ I h) fun us s1 ⟨vs, H1, I1, r, q⟩ => ⟨I1.kIn, goFnX G hgd hr hb hd (hx σ) I1 r q⟩) he hpl) hdb)⟩
theorem paNox {t : TA} (h : PA X.nox es t) : PA X es t := ⟨fun pos pins s σ H Q I hw =>
  wpAny_mono (h.run pos pins s σ H Q (I.wish _) hw) (fun _ _ ⟨vs, H', I', r, q⟩ => ⟨vs, H', I'.unwish, r, q⟩) fun _ _ z => False.elim z⟩
theorem callX_to {σ : L2.St} {H : Hp} {Q : VK} (hdd : ∀ F : Hp, RpA K F dd dvs) (hs : sigOk O ks Oi = true) (hln : ks.length + dd.length = Oi.length) (hnl : noLk Oi = true) (n1 : hasO Oi = false) (hrr : ∀ i, r ≠ .br i) (h : tEx K O W (mCallX mf ks dd ma) r σ H Q) :
    tA K O ma ks σ H fun vs H1 => spX K Oi mf r (vs ++ dvs) H1 Q (WE W σ) := by
  obtain ⟨F, ρ, z, ρ', ok, hm, q⟩ := h
  obtain ⟨⟨ds0, ρ1⟩, h1, h2⟩ := bind_some hm
  obtain ⟨es0, h3, h4⟩ := bind_some h2
  obtain ⟨⟨d1, out⟩, h5, h6⟩ := map_some h4
  cases h6
  refine ⟨F, ρ, ds0, ρ1, ok, h1, fun vs F1 H1 ok1 st1 r1 => ?_⟩
  have hl := (r1.len h3).2
  obtain ⟨okc, own⟩ := call_ok (K := K) (O := O) (Oi := Oi) (dd := dd) (dvs := dvs) n1 (by omega) hs hdd st1 ok1 r1 h3
  have hbr : ∀ (j i : Nat), ks[j]? = some (.br i) → ∃ v', ((vs ++ dvs).map some)[j]? = some (some v') ∧ sv O H1 σ i = some (some v') := fun j i ej => by
    obtain ⟨d', v', e', q1, q2, q3, _⟩ := r1.at h3 ej
    have hj := (List.getElem?_eq_some_iff.mp q1).1
    refine ⟨v', ?_, q3.1⟩
    rw [List.getElem?_map, List.getElem?_append_left hj, q1]
    rfl
  refine ⟨F1, _, d1, out, okc, h5, ?_⟩
  cases d1 with
  | inl d1 =>
    intro v F2 H2 okr str rs
    obtain ⟨a, b, c⟩ := call_back (K := K) (O := O) (Oi := Oi) (ks := ks) n1 hs hnl hrr st1 ok1 okc own hbr okr str rs (by omega)
    exact q v F2 H2 a b c
  | inr c =>
    intro F2 H2 okr str
    obtain ⟨a, b, _⟩ := call_back (K := K) (O := O) (Oi := Oi) (ks := ks) (r := .fz) (d := .none) (v := .non) n1 hs hnl (fun i z => by cases z) st1 ok1 okc own hbr okr str rfl (by omega)
    exact q F2 H2 a b
theorem x_call (h : FnXx X.prog X.w X.K X.mg X.base x n ps (spX X.K Oi mf r)) (tk : Takes X W) (hgd : X.A.guards = some []) (hr : Room j X.A) (ha : PA X.nox (e :: es) (tA X.K O ma ks)) (hj : n ≤ j := by decide) (hs : sigOk O ks Oi = true := by rfl) (hln : ks.length + 0 = Oi.length := by rfl) (hnl : noLk Oi = true := by rfl) (n1 : hasO Oi = false := by rfl) (hrr : ∀ i, r ≠ .br i := by exact fun _ z => by cases z)
    (hg : Gl X x := by rfl) (hdb : (x == ("__debug__" : Str)) = false := by decide) (he : starEach (e :: es) X.env = (false, eval e X.env) :: starEach es X.env := by rfl) (hpl : (backTo pos (starEach es X.env)).any (·.1) = false := by rfl) :
    PE X (.Call (.Name x p) (e :: es) [] pos) (tEx X.K O W (mCallX mf ks [] ma) r) := by
  obtain ⟨f, fd, G, h1, h2, h3⟩ := h.ex
  exact PEi (pe_callX (dvs := []) (ds := []) G hgd (hr.mono hj) h1 h2 h3 .nil (fun σ => passAt tk σ) (paNox ha) hg hdb he hpl) fun σ H Q h => callX_to (dd := []) (dvs := []) (fun _ => rfl) hs hln hnl n1 hrr h
end
section
variable {P : Program} {w : World} {K : PySem.W.Frag} {mg : Str → Option Value} {base : Heap} {f : Addr} {fd : FuncData}
theorem fn_dataX {x qual : Str} {params : Arguments} {body : List Stmt} {scope : Scope} {dvs : List V} {kws : List (Str × V)} {N ps : List Str} {k : Nat} {Oi Ol : List Kd} {b : MSX} {r : Ak} (F : FunD K x qual params body scope dvs kws f fd) (S : FnScope N ps scope)
    (hi : Oi.length = ps.length) (hN : N.length = Oi.length + Ol.length) (hnl : noLk Oi = true) (hr : ∀ i, r ≠ .br i)
    (hb : ∀ (cd : Value) (A : Around) (outer : List Env) (s : Shared) (H : Hp) (E : XK), A.guards = some [] → Room k (A.deeper (envOfC qual scope s.heap.objs.size f cd)) → Takes (cxOf (L2.CX P w) P w K mg base N qual scope f cd A outer s H E) (fun c d _ H' => E c d H') →
      PSs (cxOf (L2.CX P w) P w K mg base N qual scope f cd A outer s H E) body (tSx K (Oi ++ Ol) (fun c d _ H' => E c d H') b r)) (n1 : hasO Oi = false := by rfl) (n2 : hasO (Oi ++ Ol) = false := by rfl) : FnG P w K mg base (L2.CX P w) (k + 1) f fd ps (spX K Oi (mFunX Oi Ol.length r b) r) := by
  have len : ∀ (vs : List V) (H : Hp) (Q : VK) (E : XK), spX K Oi (mFunX Oi Ol.length r b) r vs H Q E → vs.length = Oi.length := fun vs H Q E h => by
    obtain ⟨F, ρ, d, ρ', ok, _⟩ := h
    have h : (vs.map some).length = nl Oi := ok.ls
    rw [List.length_map, nl_no n1] at h
    exact h
  refine fnG_of F S (fun vs H Q E h => (len vs H Q E h).trans hi) fun cd A outer s H vs Q E g hr' h => ?_
  refine ⟨_, hb cd A outer s H E g hr' (takes_of rfl rfl rfl rfl), ?_⟩
  have hv := len vs H Q E h
  obtain ⟨Fz, ρ, d, ρ', ok, hm, q⟩ := h
  obtain ⟨⟨fl, ρ1⟩, h1, h2⟩ := bind_some hm
  have hst : L2.start N vs = vs.map some ++ List.replicate Ol.length none := by
    unfold L2.start
    rw [hN, hv, Nat.add_sub_cancel_left]
  rw [hst]
  refine ⟨Fz, _, fl, ρ1, ent_ok (Ol := Ol) n1 n2 ok (List.length_replicate), h1, ?_⟩
  cases fl with
  | inl fl =>
    cases fl with
    | nx =>
      cases r with
      | ow => cases h2
      | br i => cases h2
      | fz =>
      cases h2
      intro σ' F' H' ok' st
      obtain ⟨o1, o2, o3⟩ := ext_ok (d := .none) (v := .non) (r := .fz) n1 n2 (List.length_replicate) hnl (fun _ z => by cases z) ok ok' st rfl
      exact q .non F' H' o1 o2 o3
    | rt d' =>
      cases h2
      intro v σ' F' H' ok' st rs
      obtain ⟨o1, o2, o3⟩ := ext_ok n1 n2 (List.length_replicate) hnl hr ok ok' st rs
      exact q v F' H' o1 o2 o3
    | bk => cases h2
    | ct => cases h2
  | inr c =>
    cases h2
    intro σ' F' H' ok' st
    obtain ⟨o1, o2, _⟩ := ext_ok (d := .none) (v := .non) (r := .fz) n1 n2 (List.length_replicate) hnl (fun _ z => by cases z) ok ok' st rfl
    exact q F' H' o1 o2
end
structure ExT (K : PySem.W.Frag) (mg : Str → Option Value) (c : Str) : Prop where
  g : mg c = some (clsV K c)
  ex : PySem.W.excIn K (He.ga K c) rtTail "RuntimeError.__new__" = true
  kp : PySem.W.keepIn K (clsV K c) = true
  sub : PySem.W.subIn K (clsV K c) (.type "BaseException") = some true
  ty : PySem.W.typeIn K (clsV K c) = some (.type "type")
theorem exkB_ok {K : PySem.W.Frag} {h : Heap} {mg : Str → Option Value} (X : K.In h) (G : h.Ns mainGlobals mg) {c : Str} (e : exkB K c = true) : ExT K mg c := by
  obtain ⟨e1, e⟩ := He.ba e
  obtain ⟨e2, e⟩ := He.ba e
  obtain ⟨e3, e⟩ := He.ba e
  obtain ⟨e4, e5⟩ := He.ba e
  exact ⟨PySem.W.mg_of X G (He.eqO_ok e1), e2, e3, of_decide_eq_true e4, of_decide_eq_true e5⟩
theorem x_raiseC {X : Cx} {O : List Kd} {W : WX} {r : Ak} {c m : Str} {j : Nat} {p p2 pos pos2 : Pos} (T : ExT X.K X.mg c) (hc : X.calm = true) (tk : Takes X W) (hg : Gl X c := by rfl) (hdb : (c == ("__debug__" : Str)) = false := by decide) :
    PS X (.Raise (some (.Call (.Name c p) [.Constant (.str m) j p2] [] pos)) none pos2) (tSx X.K O W (mRaiseX c) r) :=
  x_raise hc tk (pmk_own PySem.F.excBase_RuntimeError T.ex T.g T.kp (raises_own T.sub T.ty) hg hdb)
def HasE (K : PySem.W.Frag) (H : Hp) (a : Addr) (c : Str) : Prop := ∃ oe : Obj, Zc (clsV K c) none oe ∧ (∃ vs, oe.data = .fields vs) ∧ H a = some (.frz oe (.own a))
theorem HasE.mono {K : PySem.W.Frag} {H H' : Hp} {a : Addr} {c : Str} (h : HasE K H a c) (s : Same H H') : HasE K H' a c := by
  obtain ⟨oe, h1, h2, h3⟩ := h
  exact ⟨oe, h1, h2, s _ _ h3⟩
theorem call_isX {X : Cx} {c : Str} (C : ExcC X.K (He.ga X.K c)) : CallR X (.builtin "isinstance") fun xs H Q => ∃ (a : Addr) (t : V) (cv : Value) (b : Bool), xs = [.ref a, t] ∧ (∀ u, RelV t u → u = cv) ∧ HasE X.K H a c ∧ PySem.W.kitOne X.K (clsV X.K c) cv = some b ∧ Q (.bl b) H := by
  intro pins s σ H xs us Q I r h
  obtain ⟨a, t, cv, b, rfl, hcv, ⟨oe, hz, hf, ha⟩, e, q⟩ := h
  cases r with
  | cons rx rr =>
    cases rr with
    | cons rt rr =>
      cases rr
      cases rx
      have ec := hcv _ rt
      subst ec
      have ho : ObjOk X.prog X.w H s.heap a (.frz oe (.own a)) := I.hok a _ ha
      have hget : s.heap.get? a = some oe := ho.1
      obtain ⟨vs, hv⟩ := hf
      have J : PySem.W.InstAt s.heap a oe (He.ga X.K c) none := by
        obtain ⟨oc, od, oda, osl⟩ := oe
        obtain ⟨h1, h2⟩ := hz
        dsimp only at h1 h2 hv
        subst h1 h2 hv
        exact ⟨hget, rfl, rfl, trivial⟩
      exact PySem.W.kia_one (PySem.W.handS_kitx_exc C.hg C.hk C.hs C.hd C.ha C.hn C.ht C.hm) I.kIn J e (fun z => nomatch z) fun tk => ⟨.bl b, H, I.kept (t' := tk) fun _ _ z => z, rfl, q⟩
theorem dpa_bools {K : PySem.W.Frag} {H : Hp} : ∀ (bs : List Bool), DpAll K H (bs.map V.bl) (bs.map PyData.bool)
  | [] => .nil
  | b :: bs => .cons (.bl b) (dpa_bools bs)
def rCntB (K : PySem.W.Frag) : V → List V → Hp → VK → Prop := fun x xs H Q => ∃ (p : Addr) (bs : List Bool) (k : Bool), x = .ref p ∧ xs = [.bl k] ∧ SqL K H p (bs.map V.bl) ∧ Q (.int (countIn (.bool k) (bs.map PyData.bool))) H
theorem mt_lcountB {X : Cx} : MtR X "list.count" (rCntB X.K) := by
  intro pins s σ H x xs v us Q I rx rxs h
  obtain ⟨p, bs, k, rfl, rfl, hs, q⟩ := h
  cases rx
  obtain ⟨u, rfl, ru⟩ := rxs.one
  cases ru
  obtain ⟨its, rv, ⟨⟨cls, dd, data, sl⟩, n, ho, hc, hdn, hd⟩, hlen⟩ := I.list hs
  simp only at hc hd
  subst hc hd
  obtain ⟨as, ra⟩ := Dp.readsAll I (bs.map PyData.bool) _ its (dpa_bools bs) rv
  have hall : (bs.map PyData.bool).all Shape.bool.has = true := by
    rw [List.all_eq_true]
    intro d hd
    obtain ⟨b, _, rfl⟩ := List.mem_map.mp hd
    rfl
  refine call_meets PySem.F.slot_list_count ⟨_, ho, rfl⟩ PySem.F.entry_list_count (PySem.F.args_list_count_2 _ _) (SeqAt.list_countAt p its.toArray n dd sl (.bool k) (isBoolOf k)) ⟨ho, fun y hy => eq_isBoolOf k ra hall y (by simpa using hy) _ _, ?_⟩
  rw [show its.toArray.toList = its from rfl, countP_isBoolOf k ra hall]
  exact ⟨.int _, H, I.tok _, ⟨s.toks, rfl⟩, q⟩
def isX (c : Str) : List Bool := eightX.map fun t => decide (t = c)
def wordIx (c : Str) : Int := (eightX.findIdx fun t => decide (t = c) : Nat)
structure ExW (K : PySem.W.Frag) (mg : Str → Option Value) (c : Str) : Prop where
  six : c ∈ sixX
  cls : ExcC K (He.ga K c)
  mill : PySem.W.exmOne K (clsV K c) (clsV K "MillError") = some true
  run : PySem.W.kitOne K (clsV K c) (.type "RuntimeError") = some true
  all : ∀ t, t ∈ eightX → PySem.W.kitOne K (clsV K c) (clsV K t) = some (decide (t = c))
structure ExM (K : PySem.W.Frag) (mg : Str → Option Value) : Prop where
  mill : mg "MillError" = some (clsV K "MillError")
  run : mg "RuntimeError" = none
  all : ∀ t, t ∈ eightX → mg t = some (clsV K t)
theorem exwB_ok {K : PySem.W.Frag} {mg : Str → Option Value} {c : Str} (e : exwB K c = true) : ExW K mg c := by
  obtain ⟨e1, e⟩ := He.ba e
  obtain ⟨f, e⟩ := He.ba e
  obtain ⟨e2, e⟩ := He.ba e
  obtain ⟨e3, e4⟩ := He.ba e
  obtain ⟨f1, f⟩ := He.ba f
  obtain ⟨f2, f⟩ := He.ba f
  obtain ⟨f3, f⟩ := He.ba f
  obtain ⟨f4, f⟩ := He.ba f
  obtain ⟨f5, f⟩ := He.ba f
  obtain ⟨f6, f⟩ := He.ba f
  obtain ⟨f7, f8⟩ := He.ba f
  exact ⟨of_decide_eq_true e1, ⟨of_decide_eq_true f1, of_decide_eq_true f2, of_decide_eq_true f3, f4, of_decide_eq_true f5, of_decide_eq_true f6, of_decide_eq_true f7, of_decide_eq_true f8⟩, of_decide_eq_true e2, of_decide_eq_true e3, fun t ht => of_decide_eq_true (List.all_eq_true.mp e4 t ht)⟩
theorem exmB_ok {K : PySem.W.Frag} {h : Heap} {mg : Str → Option Value} (X : K.In h) (G : h.Ns mainGlobals mg) (e : exmB K = true) : ExM K mg := by
  obtain ⟨e1, e⟩ := He.ba e
  obtain ⟨e2, e3⟩ := He.ba e
  exact ⟨PySem.W.mg_of X G (He.eqO_ok e1), PySem.W.mg_none_of X G (He.eqO_ok e2), fun t ht => PySem.W.mg_of X G (He.eqO_ok (List.all_eq_true.mp e3 t ht))⟩
def spWord (K : PySem.W.Frag) (xc : List Str) : Sp := fun vs H Q _ => ∃ (a : Addr) (c : Str), vs = [.ref a] ∧ HasE K H a c ∧ c ∈ xc ∧ ∀ H', Same H H' → Q (.int (wordIx c)) H'
section
variable {P : Program} {w : World} {K : PySem.W.Frag} {mg : Str → Option Value} {base : Heap} {f : Addr} {fd : FuncData}
theorem six_count {c : Str} (h : c ∈ sixX) : countIn (.bool true) ((isX c).map PyData.bool) = 1 := by
  have : ∀ c, c ∈ sixX → countIn (.bool true) ((isX c).map PyData.bool) = 1 := by decide +kernel
  exact this c h
theorem six_index {c : Str} (h : c ∈ sixX) : ∃ j : Nat, ((isX c).map PyData.bool)[j]? = some (PyData.bool true) ∧ (∀ m, m < j → ((isX c).map PyData.bool)[m]? = some (PyData.bool false)) ∧ (j : Int) = wordIx c := by
  have : ∀ c, c ∈ sixX → (isX c)[eightX.findIdx fun t => decide (t = c)]? = some true ∧ (∀ m, m < eightX.findIdx (fun t => decide (t = c)) → (isX c)[m]? = some false) := by decide +kernel
  obtain ⟨h1, h2⟩ := this c h
  refine ⟨eightX.findIdx fun t => decide (t = c), ?_, fun m hm => ?_, rfl⟩
  · rw [List.getElem?_map, h1]
    rfl
  · rw [List.getElem?_map, h2 m hm]
    rfl
theorem fn_word {params : Arguments} {scope : Scope} {xc : List Str} {body : List Stmt} (F : FunD K "_law_word" "_law_word" params body scope [] [] f fd) (S : FnScope (["_law_caught", "_law_kinds"] : List Str) (["_law_caught"] : List Str) scope)
    (W : ∀ c, c ∈ xc → ExW K mg c)
    (hb : ∀ (cd : Value) (A : Around) (outer : List Env) (s : Shared) (H : Hp) (E : XK), A.guards = some [] → Room 1 (A.deeper (envOfC "_law_word" scope s.heap.objs.size f cd)) → ∀ c : Str, ExW K mg c →
      ∃ t, PSs (cxOf CX0 P w K mg base (["_law_caught", "_law_kinds"] : List Str) "_law_word" scope f cd A outer s H E) body t ∧ ∀ (a : Addr) (Q : VK), HasE K H a c → (∀ H', Same H H' → Q (.int (wordIx c)) H') → t { nx := fun _ H' => Q .non H', rt := Q } [some (.ref a), none] H) :
    FnG P w K mg base CX0 2 f fd (["_law_caught"] : List Str) (spWord K xc) := by
  refine fnG_of F S (fun vs H Q E h => ?_) fun cd A outer s H vs Q E g hr h => ?_
  · obtain ⟨a, c, rfl, _⟩ := h
    rfl
  · obtain ⟨a, c, rfl, h1, h2, h3⟩ := h
    obtain ⟨t, t1, t2⟩ := hb cd A outer s H E g hr c (W c h2)
    exact ⟨t, t1, t2 a Q h1 h3⟩
end
def tIsX (K : PySem.W.Frag) (c : Str) (t : V) : TE := tCB (fun xs H Q => ∃ (a : Addr) (t : V) (cv : Value) (b : Bool), xs = [.ref a, t] ∧ (∀ u, RelV t u → u = cv) ∧ HasE K H a c ∧ PySem.W.kitOne K (clsV K c) cv = some b ∧ Q (.bl b) H) (tCons (tVar 0) (tCons (tC t) tNil))
def tIs1 (K : PySem.W.Frag) (c t : Str) : TE := tIsX K c (.ref (He.ga K t))
def tWord (K : PySem.W.Frag) (c : Str) : TS := tSeq (tIfS (tNot (tB (tIsX K c (.ty "RuntimeError")))) (tRet (tUn (rU fun i => V.int (-i)) (tC (V.int 1)))) tNext)
  (tSeq (tAsg (tLst (tCons (tIs1 K c "BadCode") (tCons (tIs1 K c "BadNames") (tCons (tIs1 K c "BadNumber") tNil)))) (gName 1))
  (tSeq (tAsg (tOp (rCatS K) (tVar 1) (tLst (tCons (tIs1 K c "Unsound") (tCons (tIs1 K c "BadOrder") (tCons (tIs1 K c "BadText") tNil))))) (gName 1))
  (tSeq (tAsg (tOp (rCatS K) (tVar 1) (tLst (tCons (tIs1 K c "BadUnits") (tCons (tIs1 K c "BadBytes") tNil)))) (gName 1))
  (tRet (tIf (tTest (tOp (rEqD K) (tBM K "list" (rCntB K) (tVar 1) (tCons (tC (.bl true)) tNil)) (tC (.int 1)))) (tBM K "list" (rIndexD K) (tVar 1) (tCons (tC (.bl true)) tNil)) (tUn (rU fun i => V.int (-i)) (tC (V.int 1))))))))
section
variable {K : PySem.W.Frag} {mg : Str → Option Value} {H : Hp} {a : Addr} {c : Str} {Q : VK}
theorem isx_go {t : V} {cv : Value} {b : Bool} {σ : L2.St} (hE : HasE K H a c) (hs : σ[0]? = some (some (.ref a))) (hcv : ∀ u, RelV t u → u = cv) (hk : PySem.W.kitOne K (clsV K c) cv = some b) (q : Q (.bl b) H) : tIsX K c t σ H Q :=
  ⟨_, hs, a, t, cv, b, rfl, hcv, hE, hk, q⟩
theorem is1_go {t : Str} {σ : L2.St} (w : ExW K mg c) (hE : HasE K H a c) (hs : σ[0]? = some (some (.ref a))) (ht : t ∈ eightX) (q : Q (.bl (decide (t = c))) H) : tIs1 K c t σ H Q :=
  isx_go hE hs (fun u r => r) (w.all t ht) q
theorem ite_f {A B : Prop} (h : B) : if false = true then A else B := h
theorem ite_t {A B : Prop} (h : A) : if true = true then A else B := h
theorem same_new {p : Addr} {o : HO} (h : H p = none) : Same H (upd H p o) := fun b u e => by
  rw [upd_ne (ne_of_none e h)]
  exact e
theorem word_end {H5 : Hp} {p5 : Addr} (w : ExW K mg c) (sa : Same H H5) (hl : SqL K H5 p5 ((isX c).map V.bl)) (hQ : ∀ H', Same H H' → Q (.int (wordIx c)) H') :
    tRet (tIf (tTest (tOp (rEqD K) (tBM K "list" (rCntB K) (tVar 1) (tCons (tC (.bl true)) tNil)) (tC (.int 1)))) (tBM K "list" (rIndexD K) (tVar 1) (tCons (tC (.bl true)) tNil)) (tUn (rU fun i => V.int (-i)) (tC (V.int 1)))) { nx := fun _ H' => Q .non H', rt := Q } [some (.ref a), some (.ref p5)] H5 := by
  unfold tRet tIf tTest tOp tBM
  refine ⟨_, rfl, .inl ⟨rfl, _, hl⟩, p5, isX c, true, rfl, rfl, hl, ?_⟩
  rw [six_count w.six]
  refine ⟨.int 1, .int 1, .int 1, .int 1, by decide +kernel, by decide +kernel, true, rfl, ?_⟩
  refine ite_t ?_
  obtain ⟨j, j1, j2, j3⟩ := six_index w.six
  refine ⟨_, rfl, .inl ⟨rfl, _, hl⟩, p5, .bl true, .bool true, (isX c).map PyData.bool, j, .bool true, rfl, rfl, .lst hl (dpa_bools _), .bl true, ?_, by decide +kernel, j1, by decide +kernel, fun m z hm hz => ?_, ?_⟩
  · have : ∀ c, c ∈ sixX → SeqAt.shaped (.list ((isX c).map PyData.bool)) = true := by decide +kernel
    exact this c w.six
  · rw [j2 m hm] at hz
    cases hz
    decide +kernel
  · rw [j3]
    exact hQ _ sa
theorem word_eval (w : ExW K mg c) (hE : HasE K H a c) (hQ : ∀ H', Same H H' → Q (.int (wordIx c)) H') : tWord K c { nx := fun _ H' => Q .non H', rt := Q } [some (.ref a), none] H := by
  unfold tWord tSeq tIfS tNot tB tAsg tLst tOp tNext
  refine isx_go (t := .ty "RuntimeError") (cv := .type "RuntimeError") hE rfl (fun u r => r) w.run ⟨true, rfl, ?_⟩
  refine ite_f ?_
  dsimp only [tCons, tNil, gName]
  refine is1_go (t := "BadCode") w hE rfl (by decide) (is1_go (t := "BadNames") w hE rfl (by decide) (is1_go (t := "BadNumber") w hE rfl (by decide) ⟨by show 3 ≤ sizeLine; rw [sizeLine_eq]; omega, fun p1 n1 => ?_⟩))
  have s1 : Same H (upd H p1 (.lst [V.bl (decide ("BadCode" = c)), V.bl (decide ("BadNames" = c)), V.bl (decide ("BadNumber" = c))])) := same_new n1
  generalize e1 : upd H p1 (.lst [V.bl (decide ("BadCode" = c)), V.bl (decide ("BadNames" = c)), V.bl (decide ("BadNumber" = c))]) = H1 at s1
  have g1 : H1 p1 = some (.lst [V.bl (decide ("BadCode" = c)), V.bl (decide ("BadNames" = c)), V.bl (decide ("BadNumber" = c))]) := by rw [← e1]; exact upd_same
  have hE1 := hE.mono s1
  refine ⟨_, rfl, ?_⟩
  refine is1_go (t := "Unsound") w hE1 rfl (by decide) (is1_go (t := "BadOrder") w hE1 rfl (by decide) (is1_go (t := "BadText") w hE1 rfl (by decide) ⟨by show 3 ≤ sizeLine; rw [sizeLine_eq]; omega, fun p2 n2 => ?_⟩))
  have s2 : Same H1 (upd H1 p2 (.lst [V.bl (decide ("Unsound" = c)), V.bl (decide ("BadOrder" = c)), V.bl (decide ("BadText" = c))])) := same_new n2
  generalize e2 : upd H1 p2 (.lst [V.bl (decide ("Unsound" = c)), V.bl (decide ("BadOrder" = c)), V.bl (decide ("BadText" = c))]) = H2 at s2
  have g2 : H2 p2 = some (.lst [V.bl (decide ("Unsound" = c)), V.bl (decide ("BadOrder" = c)), V.bl (decide ("BadText" = c))]) := by rw [← e2]; exact upd_same
  refine ⟨p1, p2, _, _, rfl, rfl, .inl (.inl (s2 _ _ g1)), .inl (.inl g2), by show 3 + 3 ≤ sizeLine; rw [sizeLine_eq]; omega, fun p3 n3 => ?_⟩
  have s3 : Same H2 _ := same_new (o := .lst ([V.bl (decide ("BadCode" = c)), V.bl (decide ("BadNames" = c)), V.bl (decide ("BadNumber" = c))] ++ [V.bl (decide ("Unsound" = c)), V.bl (decide ("BadOrder" = c)), V.bl (decide ("BadText" = c))])) n3
  generalize e3 : upd H2 p3 (.lst ([V.bl (decide ("BadCode" = c)), V.bl (decide ("BadNames" = c)), V.bl (decide ("BadNumber" = c))] ++ [V.bl (decide ("Unsound" = c)), V.bl (decide ("BadOrder" = c)), V.bl (decide ("BadText" = c))])) = H3 at s3
  have g3 : H3 p3 = some (.lst ([V.bl (decide ("BadCode" = c)), V.bl (decide ("BadNames" = c)), V.bl (decide ("BadNumber" = c))] ++ [V.bl (decide ("Unsound" = c)), V.bl (decide ("BadOrder" = c)), V.bl (decide ("BadText" = c))])) := by rw [← e3]; exact upd_same
  have hE3 := (hE1.mono s2).mono s3
  refine ⟨_, rfl, ?_⟩
  refine is1_go (t := "BadUnits") w hE3 rfl (by decide) (is1_go (t := "BadBytes") w hE3 rfl (by decide) ⟨by show 2 ≤ sizeLine; rw [sizeLine_eq]; omega, fun p4 n4 => ?_⟩)
  have s4 : Same H3 (upd H3 p4 (.lst [V.bl (decide ("BadUnits" = c)), V.bl (decide ("BadBytes" = c))])) := same_new n4
  generalize e4 : upd H3 p4 (.lst [V.bl (decide ("BadUnits" = c)), V.bl (decide ("BadBytes" = c))]) = H4 at s4
  have g4 : H4 p4 = some (.lst [V.bl (decide ("BadUnits" = c)), V.bl (decide ("BadBytes" = c))]) := by rw [← e4]; exact upd_same
  refine ⟨p3, p4, _, _, rfl, rfl, .inl (.inl (s4 _ _ g3)), .inl (.inl g4), by show 6 + 2 ≤ sizeLine; rw [sizeLine_eq]; omega, fun p5 n5 => ?_⟩
  exact word_end w ((((s1.trans s2).trans s3).trans s4).trans (same_new n5)) (p5 := p5) (.inl (.inl upd_same)) hQ
end
section
variable {X : Cx} {pins : List (Addr × Obj)} {σ : L2.St} {H : Hp} {s : Shared}
theorem adopt {a : Addr} {oe : Obj} (I : Inv X ((a, oe) :: pins) σ H s) (hex : X.ex = []) (h0 : X.s_0.heap.get? a = none) (hp : ∀ p, p ∈ X.pn ++ pins → p.1 ≠ a) : Inv X pins σ (upd H a (.frz oe (.own a))) s := by
  obtain ⟨g1, g2, g3, g4, g5⟩ := I.pin (a, oe) (List.mem_append_right _ List.mem_cons_self)
  have ne : ∀ {b : Addr} {o : HO}, H b = some o → b ≠ a := fun e z => by
    rw [z, show H a = none from g2] at e
    cases e
  refine ⟨I.ok, I.os, I.bare, ⟨I.base.keep, I.base.slot, fun b o e n hx => ?_, I.base.there, fun b xs e => ?_, fun b o u e => ?_, fun b ps e => ?_⟩, I.loc, I.cell, ?_, fun x c e => ?_, fun p q => ?_, fun b o e => ?_, I.len⟩
  · have hb := I.base.free b o e n hx
    rw [upd_ne (fun z => by rw [z, h0] at e; cases e)]
    exact hb
  · have := I.base.tups b xs e
    rw [upd_ne (ne this)]
    exact this
  · have := I.base.frzs b o u e
    rw [upd_ne (ne this)]
    exact this
  · obtain ⟨m, this⟩ := I.base.tbls b ps e
    refine ⟨m, ?_⟩
    rw [upd_ne (ne this)]
    exact this
  · rw [upd_ne (fun z => g3 z.symm)]
    exact I.free
  · have ca : c ≠ a := fun z => by
      obtain ⟨v, o, ho, hd⟩ := I.cell x c e
      rw [z, show s.heap.get? a = some oe from g1] at ho
      cases ho
      exact g5 v hd
    rw [upd_ne ca]
    exact I.freeC x c e
  · have q' : p ∈ X.pn ++ (a, oe) :: pins := by
      rcases List.mem_append.mp q with q | q
      · exact List.mem_append_left _ q
      · exact List.mem_append_right _ (List.mem_cons_of_mem _ q)
    obtain ⟨e1, e2, e3⟩ := I.pin p q'
    refine ⟨e1, ?_, e3⟩
    rw [upd_ne (hp p q)]
    exact e2
  · by_cases hb : b = a
    · subst hb
      rw [upd_same] at e
      cases e
      exact ⟨g1, oe, g1⟩
    · rw [upd_ne hb] at e
      exact (I.hok b o e).stay (fun _ _ _ q => q) (fun c q => by rw [upd_ne (ne q)]; exact q) fun c xs q => by rw [upd_ne (ne q)]; exact q
end
def wCatch (K : PySem.W.Frag) (c : Value) (i j : Nat) (D : Ends) : WX := fun cls d σ H =>
  PySem.W.exmOne K cls c = some true ∧ d = none ∧ ∀ (a : Addr) (oe : Obj), H a = none → Zc cls none oe → (∃ vs, oe.data = .fields vs) → D.nx (((σ.set i (some (.ref a))).set j (some (.ref a))).set i none) (upd H a (.frz oe (.own a)))
section
variable {X : Cx} {x n y : Str} {c : Value} {i j : Nat} {body : List Stmt} {np pos pos' p1 p2 p3 : Pos} {tb : WX → TS}
theorem ps_try_x (hs : X.stack = X.env :: X.outer) (hf : X.env.frame = some X.env.locals) (hex : X.ex = []) (hN : X.N.Nodup) (hi : X.N[i]? = some n) (hln : X.env.kindOf n = some .local) (hj : X.N[j]? = some y) (hlj : X.env.kindOf y = some .local) (hc : Names X x c)
    (hdn : (n == ("__debug__" : Str)) = false) (hcn : (n == ("__classdict__" : Str)) = false) (hsw : swapsWith (.Name n p2) (some (.Name y p1)) p3.line X.env = pure false)
    (hb : ∀ (W : WX) (pn : List (Addr × Obj)) (xe : Value → Shared → Prop), Takes (X.tr pn xe) W → PSs (X.tr pn xe) body (tb W)) :
    PS X (.Try body [.ExceptHandler (some (.Name x np)) (some n) [.Assign [.Name y p1] (.Name n p2) p3] pos'] [] [] pos) (fun D σ H => tb (wCatch X.K c i j D) D σ H) := by
  refine ⟨fun pins s σ H D I h => ?_⟩
  have ok := I.ok
  have hfr : X.A.frames = some (X.env :: X.outer) := by rw [ok.frames, hs]
  have hloc : Loc X.env.scope n := .inl hln
  have hlocj : Loc X.env.scope y := .inl hlj
  refine wpAny_Try_except ?_
  refine wpAny_mono ((hb (wCatch X.K c i j D) (X.pn ++ pins) (fun e s₁ => wpAny (model X.prog X.w) X.A (noteFrame e X.env) (fun _ s₂ => wpAny (model X.prog X.w) X.A (setFlight e none) (fun _ s₃ =>
    wpAny (model X.prog X.w) X.A (handleBy e X.env [.ExceptHandler (some (.Name x np)) (some n) [.Assign [.Name y p1] (.Name n p2) p3] pos']) (SP X pins D) X.xe s₃) X.xe s₂) X.xe s₁) (fun u s' xx => ?_)).run [] s σ H D (I.toTry _) h) (fun f s1 hsp => ?_) (fun e s1 he => he)
  · obtain ⟨a, B, sI, pins', σ', H', cls, d, rfl, J', nb, up, sky, na, os, ag, hb1, hd0, hyes⟩ := xx
    subst hd0
    have J : Inv X pins σ' H' sI := J'.ofTry ok
    have sky' : Sky B (X.env :: X.outer) a (Zc cls none) X.env.locals s'.heap := by rw [← hs]; exact sky
    show wpAny (model X.prog X.w) X.A (noteFrame (.ref a) X.env) _ _ _
    refine Sky.land Zc.steady hfr hf sky' fun h3 fl3 up3 => ?_
    have J3 : Inv X pins σ' H' { s' with heap := h3 } := J.landed nb fl3.1 (up.trans up3) os ag
    obtain ⟨oe3, vs3, he3, hz3, hd3⟩ := fl3.there
    have notFr : ∀ {h : Heap} {o : Obj} {vs : Array Value}, h.FunFrames B (X.env :: X.outer) → h.get? a = some o → o.data = .fields vs → a ∉ frs (X.env :: X.outer) := fun {h o vs} ff e dd hm => by
      obtain ⟨_, o', e', hnf⟩ := ff.mem hm
      rw [e] at e'; cases e'
      exact hnf _ dd
    have nfr := notFr fl3.2.2.1 he3 hd3
    have nL : a ≠ X.env.locals := fun z => nfr (List.mem_filterMap.mpr ⟨X.env, List.mem_cons_self, by rw [hf, z]⟩)
    have nF : a ∉ X.fs := fun hm => by
      obtain ⟨e, he, q⟩ := List.mem_filterMap.mp hm
      exact nfr (List.mem_filterMap.mpr ⟨e, List.mem_cons_of_mem _ he, q⟩)
    have nI : sI.heap.get? a = none := by
      cases q : sI.heap.get? a with
      | none => rfl
      | some o =>
        have z := nb a o q (by rw [hs]; exact nfr)
        rw [fl3.2.1] at z
        cases z
    have h0 : X.s_0.heap.get? a = none := by
      cases q : X.s_0.heap.get? a with
      | none => rfl
      | some o =>
        obtain ⟨o', z⟩ := J.base.there a o q (by rw [hex]; exact List.not_mem_nil)
        rw [nI] at z
        cases z
    have pne : ∀ p, p ∈ X.pn ++ pins → p.1 ≠ a := fun p hp z => by
      have := (J.pin p hp).1
      rw [z, nI] at this
      cases this
    have S3 := J3.suite he3 hd3 na nL nF
    refine wpAny_handleBy_cons (codeAny_handlers_test ?_) (by intro q; cases q)
    have LT : PySem.W.Looks (model X.prog X.w) h3 (typeOf (.ref a)) cls := fun A Q E s k q => wpAny_typeOf_ref (k _ _ he3) (by rw [hz3.1]; exact q)
    have LM := PySem.W.exm_one (M := model X.prog X.w) (J3.kIn) LT hb1
    have test : ∀ {Q : Value → Shared → Prop} {E : Value → Shared → Prop}, Q c { s' with heap := h3 } → wpAny (model X.prog X.w) (X.A.mark (some (.ref a))) (eval (.Name x np) X.env) Q E { s' with heap := h3 } := fun {Q E} q => by
      obtain ⟨hg, hdbg, hm | ⟨hm, hv, hnn⟩⟩ := hc
      · exact ld_glob (X := X.suite a ((a, oe3) :: (X.pn ++ pins))) S3 hg hm q hdbg
      · exact ld_blt (X := X.suite a ((a, oe3) :: (X.pn ++ pins))) S3 hg hm hv q hnn hdbg
    refine test (LM.here ?_)
    refine codeAny_handlers_suite_as ?_
    refine HandSPX.lands_againZ fl3 fun h4 fl4 up4 => ?_
    have J4 : Inv X pins σ' H' { s' with heap := h4 } := J.landed nb fl4.1 ((up.trans up3).trans up4) os ag
    obtain ⟨oe4, vs4, he4, hz4, hd4⟩ := fl4.there
    have S4 := J4.suite he4 hd4 na nL nF
    refine store_ok (X := X.suite a ((a, oe4) :: (X.pn ++ pins))) (v := .ref a) S4 hN hi hloc rfl (fun s5 S5 => ?_) (.inr hln)
    have hsu : PSs (X.suite a ((a, oe4) :: (X.pn ++ pins))) [.Assign [.Name y p1] (.Name n p2) p3] (tSeq (tAsg (tVar i) (gName j)) tNext) :=
      pss_cons (ps_set hN hj hlocj (pe_var hi (.inl hln) hdn hcn) hsw (.inr hlj)) pss_nil
    have hv : (σ'.set i (some (.ref a)))[i]? = some (some (V.ref a)) := by
      have hl : i < σ'.length := by
        rw [J.len]
        exact (List.getElem?_eq_some_iff.mp hi).1
      rw [List.getElem?_set_self hl]
    refine wpAny_mono (hsu.run [] s5 _ H' { nx := fun σ6 H6 => σ6 = (σ'.set i (some (.ref a))).set j (some (.ref a)) ∧ H6 = H', rt := fun _ _ => False } S5 ⟨.ref a, hv, rfl, rfl⟩) (fun f s6 hsp => ?_) (fun _ _ z => False.elim z)
    have S2 : ∀ {σ6 : L2.St} {H6 : Hp}, Inv (X.suite a ((a, oe4) :: (X.pn ++ pins))) [] σ6 H6 s6 → Inv X ((a, oe4) :: pins) σ6 H6 s6 := fun S6 =>
      ⟨ok, S6.os, S6.bare, S6.base, S6.loc, S6.cell, S6.free, S6.freeC, fun p hp => S6.pin p (by
        rw [List.append_nil]
        rcases List.mem_append.mp hp with hp | hp
        · exact List.mem_cons_of_mem _ (List.mem_append_left _ hp)
        · rcases List.mem_cons.mp hp with hp | hp
          · rw [hp]
            exact List.mem_cons_self
          · exact List.mem_cons_of_mem _ (List.mem_append_right _ hp)), S6.hok, S6.len⟩
    cases f with
    | next =>
      obtain ⟨σ6, H6, S6, rfl, rfl⟩ := hsp
      exact gone_ok (S2 S6) hN hi hln fun s7 J7 => ⟨_, _, adopt J7 hex h0 pne, hyes a oe4 na hz4 ⟨_, hd4⟩⟩
    | brk =>
      obtain ⟨_, _, _, z⟩ := hsp
      exact z.elim
    | cont =>
      obtain ⟨_, _, _, z⟩ := hsp
      exact z.elim
    | ret u =>
      obtain ⟨_, _, _, _, _, z⟩ := hsp
      exact z.elim
  · cases f with
    | next =>
      obtain ⟨σ', H', J', q⟩ := hsp
      exact wpAny_execs_nil ⟨σ', H', J'.ofTry ok, q⟩
    | brk =>
      obtain ⟨σ', H', J', q⟩ := hsp
      exact ⟨σ', H', J'.ofTry ok, q⟩
    | cont =>
      obtain ⟨σ', H', J', q⟩ := hsp
      exact ⟨σ', H', J'.ofTry ok, q⟩
    | ret u =>
      obtain ⟨v, σ', H', J', r, q⟩ := hsp
      exact ⟨v, σ', H', J'.ofTry ok, r, q⟩
end
def fTold (xc : List Str) (f1 : MX) : En → Option (D × En)
  | [some a, some b] => (f1 [some a, some b]).bind fun p => match p.1 with
    | .inl d => some (.tuple [.str "found", d], [none, none])
    | .inr c => if c ∈ xc then some (.tuple [.str "refused", .int (wordIx c)], [none, none]) else none
  | _ => none
abbrev O_told : List Kd := [.fz, .fz, .fz, .fz, .fz]
def mOne (f1 : MX) : MSX := mSetX 3 (mCallX f1 [.fz, .fz] [] (maCons (mVar 0) (maCons (mVar 1) maNil)))
def tTry (K : PySem.W.Frag) (f1 : MX) : TS := fun D σ H => tSx K O_told (wCatch K (clsV K "MillError") 4 2 D) (mOne f1) .fz D σ H
def mFnd : MS := mIte (mTr (m2 (.fz) (.fz) (mVar 2) (mC .none) dIsN)) (mRet (mTup (maCons (mC (.str "found")) (maCons (mVar 3) maNil)))) mSkip
def tRef (K : PySem.W.Frag) (xc : List Str) : TS := tSeq (tIfS (tTest (tOp rIsN (tVar 2) (tC .non))) (fun _ _ _ => False) tNext) (tRet (tTup (tCons (tC (.str "refused")) (tCons (tCall (spWord K xc) [] E0 (tCons (tVar 2) tNil)) tNil))))
def tOr (t u : TS) : TS := fun D σ H => t D σ H ∨ u D σ H
theorem pss_or {X : Cx} {sts : List Stmt} {t u : TS} (h : PSs X sts t) (k : PSs X sts u) : PSs X sts (tOr t u) := ⟨fun pins s σ H D I hw => hw.elim (fun z => h.run pins s σ H D I z) fun z => k.run pins s σ H D I z⟩
def tTold (K : PySem.W.Frag) (xc : List Str) (f1 : MX) : TS := tSeq (tS K O_told (mSet 2 (mC .none)) .fz) (tSeq (tS K O_told (mSet 3 (mC .none)) .fz) (tSeq (tTry K f1) (tOr (tSeq (tS K O_told mFnd .fz) fun _ _ _ => False) (tRef K xc))))
section
variable {K : PySem.W.Frag} {mg : Str → Option Value} {xc : List Str} {f1 : MX} {F H : Hp} {σ : L2.St} {Q : VK}
theorem ref_eval {D : Ends} {a : Addr} {c : Str} {F' : Hp} {ρ' : En} {σ0 : L2.St} {O : List Kd} {ρ0 : En} (W : ∀ c, c ∈ xc → ExW K mg c) (hc : c ∈ xc) (s2 : σ[2]? = some (some (.ref a))) (hE : HasE K H a c)
    (q : ∀ H3 p, Same H H3 → H3 p = none → D.rt (.ref p) (upd H3 p (.tup [.str "refused", .int (wordIx c)]))) : tRef K xc D σ H := by
  unfold tRef tSeq tIfS tTest tOp tNext
  refine ⟨_, s2, rfl, false, rfl, ?_⟩
  refine ite_f ?_
  unfold tRet tTup
  refine ⟨_, s2, a, c, rfl, hE, hc, fun H3 s3 => ⟨by show 2 ≤ sizeLine; rw [sizeLine_eq]; omega, fun p np => q H3 p s3 np⟩⟩
theorem told_eval {vs : List V} {N : List Str} (hN : N.length = 5) (W : ∀ c, c ∈ xc → ExW K mg c) (h : tE K [.fz, .fz] (fTold xc f1) .fz (vs.map some) H Q) : tTold K xc f1 { nx := fun _ H' => Q .non H', rt := Q } (L2.start N vs) H := by
  obtain ⟨F, ρ, d, ρ', ok, hm, q⟩ := h
  have hv : vs.length = 2 := by
    have h : (vs.map some).length = nl [Kd.fz, Kd.fz] := ok.ls
    rw [List.length_map] at h
    exact h
  have hst : L2.start N vs = vs.map some ++ List.replicate 3 none := by
    unfold L2.start
    rw [hN, hv]
  rw [hst]
  unfold fTold at hm
  split at hm
  · rename_i dw ds
    obtain ⟨⟨z, out⟩, h1, h2⟩ := bind_some hm
    have ok0 : Ok K O_told ⟨F, H, vs.map some ++ List.replicate 3 none, [some dw, some ds, none, none, none]⟩ := ent_ok (Oi := [.fz, .fz]) (Ol := [.fz, .fz, .fz]) rfl rfl ok rfl
    refine ⟨F, _, .nx, _, ok0, rfl, fun σ1 F1 H1 ok1 st1 => ?_⟩
    refine ⟨F1, _, .nx, _, ok1, rfl, fun σ2 F2 H2 ok2 st2 => ?_⟩
    have ok2 : Ok K O_told ⟨F2, H2, σ2, [some dw, some ds, some .none, some .none, none]⟩ := ok2
    have hone : mOne f1 [some dw, some ds, some .none, some .none, none] = some (match z with
      | .inl d => (.inl .nx, [some dw, some ds, some .none, some d, none])
      | .inr c => (.inr c, [some dw, some ds, some .none, some .none, none])) := by
      show (((mCallX f1 [.fz, .fz] [] (maCons (mVar 0) (maCons (mVar 1) maNil))) [some dw, some ds, some .none, some .none, none]).map _) = _
      have : (mCallX f1 [.fz, .fz] [] (maCons (mVar 0) (maCons (mVar 1) maNil))) [some dw, some ds, some .none, some .none, none] = some (z, [some dw, some ds, some .none, some .none, none]) := by
        show (f1 [some dw, some ds]).map _ = _
        rw [h1]
        have pb : ∀ (o r : En), putB [.fz, .fz] o r = r := fun o r => by
          rcases o with _ | ⟨x, _ | ⟨y, o⟩⟩ <;> rfl
        show some (z, putB [.fz, .fz] out _) = _
        rw [pb]
      rw [this]
      cases z <;> rfl
    cases z with
    | inl dz =>
      cases h2
      refine ⟨F2, _, .inl .nx, _, ok2, hone, fun σ3 F3 H3 ok3 st3 => .inl ?_⟩
      refine ⟨F3, _, .rt (.tuple [.str "found", dz]), _, ok3, rfl, fun v σ4 F4 H4 ok4 st4 r4 => ?_⟩
      have st := ((st1.trans st2).trans st3).trans st4
      obtain ⟨o1, o2, o3⟩ := ext_ok (Oi := [.fz, .fz]) (Ol := [.fz, .fz, .fz]) (r := .fz) rfl rfl rfl rfl (fun _ z => by cases z) ok ok4 st (r4.pre ((st1.trans st2).trans st3))
      exact q v F4 H4 o1 o2 o3
    | inr c =>
      have h2 : (if c ∈ xc then some (PyData.tuple [.str "refused", .int (wordIx c)], [none, none]) else none) = some (d, ρ') := h2
      split at h2
      · rename_i hc
        cases h2
        have w := W c hc
        refine ⟨F2, _, .inr c, _, ok2, hone, fun σ3 F3 H3 ok3 st3 => ⟨w.mill, rfl, fun a oe na hz hf => .inr ?_⟩⟩
        have l3 : σ3.length = 5 := (show σ3.length = nl O_told from ok3.ls).trans rfl
        have st := (st1.trans st2).trans st3
        obtain ⟨o1, o2, _⟩ := ext_ok (Oi := [.fz, .fz]) (Ol := [.fz, .fz, .fz]) (d := .none) (v := .non) (r := .fz) rfl rfl rfl rfl (fun _ z => by cases z) ok ok3 st rfl
        refine ref_eval (D := { nx := fun _ H' => Q .non H', rt := Q }) (F' := F3) (ρ' := []) (σ0 := σ3) (O := O_told) (ρ0 := []) W hc ?_ ⟨oe, hz, hf, upd_same⟩ fun H5 p s5 np => ?_
        · rw [List.getElem?_set_ne (by decide), List.getElem?_set_self (by rw [List.length_set, l3]; decide)]
        · have sH : Same H3 H5 := (same_new na).trans s5
          have sF : Same F3 H3 := ok3.sub
          have np3 : H3 p = none := sH.free np
          have pu : Pur F3 H3 (upd F3 p (.tup [.str "refused", .int (wordIx c)])) (upd H5 p (.tup [.str "refused", .int (wordIx c)])) := by
            refine ⟨same_new (sF.free np3), .of (sH.trans (same_new np)), fun b u e => ?_, fun b o e f => ?_⟩
            · by_cases hb : b = p
              · subst hb
                rw [upd_same] at e ⊢
                exact e
              · rw [upd_ne hb] at e ⊢
                exact sH _ _ (sF _ _ e)
            · rw [upd_ne (ne_of_none e np3)]
              exact f
          obtain ⟨o4, o5⟩ := o1.pur pu
          exact q (.ref p) _ _ o4 (o2.trans o5) ⟨p, _, rfl, .inl (.inl upd_same), ⟨_, _, rfl, rfl, ⟨_, _, rfl, rfl, rfl⟩⟩⟩
      · cases h2
  · cases hm
theorem fn_told {P : Program} {w : World} {base : Heap} {f : Addr} {fd : FuncData} {k : Nat} {params : Arguments} {scope : Scope} {body : List Stmt} {N : List Str} (hN : N.length = 5) (F : FunD K "_law_told" "_law_told" params body scope [] [] f fd) (S : FnScope N (["_law_way", "_law_some"] : List Str) scope)
    (W : ∀ c, c ∈ xc → ExW K mg c)
    (hb : ∀ (cd : Value) (A : Around) (outer : List Env) (s : Shared) (H : Hp) (E : XK), A.guards = some [] → Room k (A.deeper (envOfC "_law_told" scope s.heap.objs.size f cd)) →
      PSs (cxOf CX0 P w K mg base N "_law_told" scope f cd A outer s H E) body (tTold K xc f1)) :
    FnG P w K mg base CX0 (k + 1) f fd (["_law_way", "_law_some"] : List Str) (spF K [.fz, .fz] (fTold xc f1) .fz) := by
  refine fnG_of F S (fun vs H Q E h => spF_len rfl h) fun cd A outer s H vs Q E g hr h => ?_
  exact ⟨_, hb cd A outer s H E g hr, told_eval hN W h⟩
end
structure FnXNx (P : Program) (w : World) (K : PySem.W.Frag) (mg : Str → Option Value) (base : Heap) (x : Str) (k : Nat) (ps : List Str) (sp : Sp) (n : Nat) (ks : List Str) (gD : List D → List D) : Prop where
  ex : ∃ (f : Addr) (fd : FuncData) (g : List Value → List Value → List Value) (gV : List V → List V), FnG P w K mg base (L2.CX P w) k f fd ps sp ∧ mg x = some (.ref f) ∧ PySem.W.keepIn K (.ref f) = true ∧ KBn K fd ps n ks g (fun vs zs => vs ++ gV zs) ∧
    ∀ (F : Hp) (es : List D) (zs : List V), es.length = ks.length → RpA K F es zs → RpA K F (gD es) (gV zs)
structure FnXDx (P : Program) (w : World) (K : PySem.W.Frag) (mg : Str → Option Value) (base : Heap) (x : Str) (k : Nat) (ps : List Str) (sp : Sp) (dd : List D) : Prop where
  ex : ∃ (f : Addr) (fd : FuncData) (dvs : List V) (ds : List Value), FnG P w K mg base (L2.CX P w) k f fd ps sp ∧ mg x = some (.ref f) ∧ PySem.W.keepIn K (.ref f) = true ∧ Binds K fd ps ds ∧ Vals dvs ds ∧ ∀ F : Hp, RpA K F dd dvs
section
variable {X : Cx} {CX : CXT} {j k n : Nat} {f : Addr} {fd : FuncData} {ps ns : List Str} {sp : Sp} {E : L2.St → XK} {x : Str} {p pos : Pos} {e : Expr} {es : List Expr} {kws : List Keyword} {t tk : TA} {g : List Value → List Value → List Value} {gV : List V → List V → List V}
end
section
variable {X : Cx} {W : WX} {j k n : Nat} {ps ns : List Str} {O Oi : List Kd} {mf : MX} {r : Ak} {x : Str} {p pos : Pos} {e : Expr} {es : List Expr} {kws : List Keyword} {ma mk : MA} {ks kk kz : List Ak} {gD : List D → List D} {dd : List D}
end
abbrev MR := En → Option (Str × En)
structure GlX (K : PySem.W.Frag) (mg : Str → Option Value) (x : Str) : Prop where
  ex : ∃ a : Addr, mg x = some (.ref a) ∧ PySem.W.keepIn K (.ref a) = true
structure MkXr (P : Program) (w : World) (K : PySem.W.Frag) (mg : Str → Option Value) (base : Heap) (c : Str) (k : Nat) (ps : List Str) (sp : Sp) : Prop where
  mkr : Mk K (He.ga K c) (He.ma K (He.ga K c) "__init__")
  gl : mg c = some (.ref (He.ga K c))
  ex : ∃ fd : FuncData, FnG P w K mg base (L2.CX P w) k (He.ma K (He.ga K c) "__init__") fd ps sp ∧ Binds K fd ps []
section
variable {X : Cx} {K : PySem.W.Frag} {O Oi : List Kd} {W : WX} {e o : Expr} {es : List Expr} {m : M} {mx : MX} {mr : MR} {ma : MA} {mf : MX} {ks : List Ak} {k : Ak} {x c : Str} {p pos apos : Pos} {j n : Nat} {ps : List Str}
end
structure MkXm (P : Program) (w : World) (K : PySem.W.Frag) (mg : Str → Option Value) (base : Heap) (c : Str) (k : Nat) (ps : List Str) (sp : Sp) : Prop where
  mkr : Mk K (He.ga K c) (He.ma K (He.ga K c) "__init__")
  gl : mg c = some (.ref (He.ga K c))
  ex : ∃ fd : FuncData, FnG P w K mg base (L2.CX P w) k (He.ma K (He.ga K c) "__init__") fd ps sp ∧ Binds K fd ps []
section
variable {P : Program} {w : World} {K : PySem.W.Frag} {mg : Str → Option Value} {base : Heap} {f : Addr} {fd : FuncData}
end
section
variable {X : Cx} {O Oi O' : List Kd} {W : WX} {k j n : Nat} {ps : List Str} {mf : MX} {r : Ak} {x c : Str} {p pos pos' spos apos : Pos} {e : Expr} {es : List Expr} {ma : MA} {ks : List Ak} {rest : List Stmt} {mm : MSX}
end
section
variable {X : Cx} {K : PySem.W.Frag} {O L : List Kd} {W : WX} {r : Ak} {pos : Pos} {mi : MI} {g : MG} {is : List Nat} {sb : MSX}
end
def firstAt (d : D) : Nat → List D → Option Nat
  | _, [] => none
  | k, z :: zs => if PyData.eqv z d = true then some k else firstAt d (k + 1) zs
theorem firstAt_spec {d : D} : ∀ {zs : List D} {k j : Nat}, firstAt d k zs = some j → ∃ i z, j = k + i ∧ zs[i]? = some z ∧ PyData.eqv z d = true ∧ ∀ (m : Nat) (z' : D), m < i → zs[m]? = some z' → PyData.eqv z' d = false
  | [], _, _, h => by cases h
  | z :: zs, k, j, h => by
    unfold firstAt at h
    split at h
    · rename_i hz
      cases h
      exact ⟨0, z, rfl, rfl, hz, fun m z' hm _ => absurd hm (Nat.not_lt_zero _)⟩
    · rename_i hz
      obtain ⟨i, z1, e1, e2, e3, e4⟩ := firstAt_spec h
      refine ⟨i + 1, z1, by omega, e2, e3, fun m z' hm hm2 => ?_⟩
      cases m with
      | zero =>
        cases hm2
        exact Bool.eq_false_iff.mpr hz
      | succ m => exact e4 m z' (by omega) hm2
def dIndex : List D → Option D
  | [.list ds, d] => if (eqOk (.list ds) && eqOk d) = true then (firstAt d 0 ds).map (fun j : Nat => PyData.int (j : Int)) else none
  | _ => none
def mM_index (ka : Ak) (m : M) (ks : List Ak) (ma : MA) : M := mOp (ka :: ks) (maCons m ma) dIndex
theorem s_indexD {K : PySem.W.Frag} : LSem K (fun vs H Q => ∃ x xs, vs = x :: xs ∧ rIndexD K x xs H Q) dIndex .fz := by
  intro F H ds vs d Q s hv ho q
  unfold dIndex at ho
  split at ho
  · rename_i ls e
    split at ho
    · rename_i hb
      obtain ⟨ha, hd⟩ := Bool.and_eq_true_iff.mp hb
      obtain ⟨j, hj, rfl⟩ := Option.map_eq_some_iff.mp ho
      obtain ⟨i, z, e1, e2, e3, e4⟩ := firstAt_spec hj
      rw [Nat.zero_add] at e1
      subst e1
      obtain ⟨v, u, e0, h1, h2⟩ := hv.two
      obtain ⟨a1, a2⟩ := eqOk_of ha
      obtain ⟨b1, b2⟩ := eqOk_of hd
      have D1 := h1.dp s a2
      have D2 := h2.dp s b2
      cases h1 with
      | intro a h1 =>
        obtain ⟨xs, rfl, _⟩ := h1
        exact ⟨_, [u], e0, a, u, e, ls, j, z, rfl, rfl, D1, D2, a1, b1, e2, e3, e4, q.now s rfl⟩
    · cases ho
  · cases ho
section
variable {X : Cx} {O : List Kd} {pos p apos : Pos} {a e : Expr} {es : List Expr} {m : M} {ma : MA} {ks : List Ak}
end
def rgD (n : Int) : List D := (List.range n.toNat).map fun i => PyData.int (i : Nat)
def mLrng1 (m : M) : M := fun ρ => (m ρ).bind fun p => match p.1 with
  | .int n => if n ≤ 16777216 ∧ -16777216 ≤ n then some (.list (rgD n), p.2) else none
  | _ => none
theorem rpA_map {K : PySem.W.Frag} {F : Hp} {α : Type} {f : α → D} {g : α → V} (h : ∀ a, Rp K F (f a) (g a)) : ∀ (xs : List α), RpA K F (xs.map f) (xs.map g)
  | [] => rfl
  | x :: xs => ⟨_, _, rfl, h x, rpA_map h xs⟩
theorem rgD_rp {K : PySem.W.Frag} {F : Hp} {n : Int} : RpA K F (rgD n) (rgV 0 n) := by
  unfold rgD rgV
  rw [Int.sub_zero]
  refine rpA_map (fun i => ?_) _
  show V.int (0 + (i : Int)) = V.int (i : Nat)
  rw [Int.zero_add]
section
variable {X : Cx} {O : List Kd} {pos p p2 pos2 apos spos sp : Pos} {a e o : Expr} {es : List Expr} {m : M} {ma : MA} {ks : List Ak}
theorem e_lrng1 (B : Bt X.mg) (hc : X.calm = true) (ha : PE X a (tE X.K O m .fz)) (hg : Gl X "list" := by rfl) (hg2 : Gl X "range" := by rfl) (na : starEach [a] X.env = (false, eval a X.env) :: starEach [] X.env := by rfl)
    (na2 : starEach [.Call (.Name "range" p2) [a] [] pos2] X.env = (false, eval (.Call (.Name "range" p2) [a] [] pos2) X.env) :: starEach [] X.env := by rfl) :
    PE X (.Call (.Name "list" p) [.Call (.Name "range" p2) [a] [] pos2] [] pos) (tE X.K O (mLrng1 m) .ow) := by
  refine PEi (pe_listRg hc hg B.list (prg_1 hg2 B.range ha na) na2) fun σ H Q ⟨F, ρ, d, ρ', ok, hm, q⟩ => ?_
  obtain ⟨⟨d1, ρ1⟩, e1, e2⟩ := bind_some hm
  cases d1 <;> first | (cases e2; done) | skip
  rename_i n
  dsimp only at e2
  split at e2
  · rename_i hn
    cases e2
    refine ⟨F, ρ, _, _, ok, e1, fun v F1 H1 ok1 st1 r1 => ⟨n, r1, ⟨by omega, by omega, by omega, by omega, by omega⟩, ?_⟩⟩
    refine Post.lst (K := X.K) (ds := rgD n) ok1.sub (fun v2 F2 H2 pu r2 => ?_) rgD_rp
    obtain ⟨ok2, st2⟩ := ok1.pur pu
    exact q v2 F2 H2 ok2 (st1.trans st2) ((r2.rs ok1 st2).pre st1)
  · cases e2
theorem e_m_indexF (hu : X.A.units + 65 < cLine) (ho : PE X a (tE X.K O m .fz)) (ha : PA X (e :: es) (tA X.K O ma ks))
    (hbase : attributeBase a "index" X.env (eval a X.env) = eval a X.env := by rfl)
    (hfew : ((backTo pos (starEach (e :: es) X.env)).all (fun x => !x.1) && (backToKw pos (keywordEach [] X.env)).all (fun x => x.1.isSome)
      && decide ((e :: es).length + ([] : List Keyword).length + (if ([] : List Keyword).isEmpty then 0 else 1) < 30)) = true := by rfl)
    (hline : (apos.endLine == pos.line) = true := by rfl) (hst : starEach (e :: es) X.env = (false, eval e X.env) :: starEach es X.env := by rfl) (hplain : (backTo pos (starEach es X.env)).any (·.1) = false := by rfl) :
    PE X (.Call (.Attribute a "index" apos) (e :: es) [] pos) (tE X.K O (mM_index .fz m ks ma) .fz) := by
  refine PEi (pe_bm PySem.F.plainAttrs_list PySem.F.slot_list_index PySem.F.type_list_index (mt_indexD hu) ho ha hbase hfew hline hst hplain) fun σ H Q h => ?_
  obtain ⟨F, ρ, d, ρ', ok, hm, q⟩ := h
  obtain ⟨⟨dss, ρ1⟩, h1, h2⟩ := bind_some hm
  obtain ⟨⟨d1, ρa⟩, m1, m2'⟩ := bind_some h1
  obtain ⟨⟨dr, ρb⟩, m3, m4⟩ := bind_some m2'
  cases m4
  obtain ⟨fs, f1, f2⟩ := bind_some h2
  obtain ⟨d', f3, f4⟩ := map_some f2
  cases f4
  obtain ⟨fr, f5, rfl⟩ := map_some (show (fill ks dr ρb).map (d1 :: ·) = some fs from f1)
  obtain ⟨ds1, rfl⟩ : ∃ ds1, d1 = PyData.list ds1 := by
    cases d1 with
    | list l => exact ⟨l, rfl⟩
    | _ => cases f3
  refine ⟨F, ρ, _, ρa, ok, m1, fun v F1 H1 ok1 st1 r1 => ?_⟩
  have r1' := r1
  obtain ⟨p, xs, rfl, g2, g3⟩ := r1
  refine ⟨.inl ⟨rfl, xs, ok1.sub.seq g2⟩, F1, ρa, dr, ρb, ok1, m3, fun vs F2 H2 ok2 st2 r2 => ?_⟩
  have rs : Rss X.K O ⟨F, H, σ, ρ⟩ ⟨F2, H2, σ, ρb⟩ (.fz :: ks) (.list ds1 :: dr) (V.ref p :: vs) := ⟨_, dr, V.ref p, vs, rfl, rfl, Rp.mono st2.ex _ _ r1', r2.pre st1⟩
  obtain ⟨x, xs, e1, hr⟩ := s_indexD (K := X.K) F2 H2 _ _ d Q ok2.sub (rs.views ok2 f1) f3 fun v F3 H3 pu r3 => by
    obtain ⟨ok3, st3⟩ := ok2.pur pu
    exact q v F3 H3 ok3 ((st1.trans st2).trans st3) ((r3.rs ok2 st3).pre (st1.trans st2))
  cases e1
  exact hr
end
section
variable {X : Cx} {O : List Kd} {pos spos sp : Pos} {o e : Expr} {lo hi : Option Expr} {to : TE} {tl th : TO}
end
section
variable {X : Cx} {O : List Kd} {e : Expr} {m : M} {pos p2 : Pos} {j : Nat} {c : Bool}
end
open PySem in
section
variable {X : Cx}
end
open PySem PySem.Spec PyProof.Rows L2
section
variable {X : Cx} {O Oi : List Kd} {c f mn : Str} {pos apos : Pos} {e o : Expr} {es : List Expr} {m mo : M} {ma : MA} {ks : List Ak} {k j : Nat} {ps : List Str} {mf : En → Option (D × En)}
end
section
variable {X : Cx} {O Oi : List Kd} {W : WX} {k j : Nat} {ps : List Str} {mf : MX} {c : Str} {p pos : Pos} {e : Expr} {es : List Expr} {ma : MA} {ks : List Ak}
end
section
variable {X : Cx} {O Oi : List Kd} {k j : Nat} {ps : List Str} {mf : En → Option (D × En)} {c : Str} {p pos : Pos} {e : Expr} {m : M}
end
structure IsC (K : PySem.W.Frag) (mg : Str → Option Value) (c : Str) : Prop where
  gl : mg c = some (.ref (He.ga K c))
  cl : Cls K (He.ga K c)
  ha : PySem.W.findIn K (.ref (He.ga K c)) "__class__" = some (some (.builtin "object.__class__"))
  hn : PySem.W.specialIn K (.builtin "object.__class__") "__get__" = some (some (.builtin "getset_descriptor.__get__"))
  htk : PySem.W.takesIn K (.builtin "object.__class__") = some true
  hm : PySem.W.mroIn K (He.ga K c) (.type "object") = some true
  ty : ((PySem.W.clsIn K (He.ga K c)).isSome && PySem.W.typeIn K (.ref (He.ga K c)) == some (.type "type")) = true
section
variable {X : Cx} {O : List Kd} {c : Str} {p q pos : Pos} {e : Expr} {m : M} {ka : Ak}
end
section
variable {X : Cx} {CX : CXT} {k : Nat} {f C : Addr} {fd : FuncData} {ps : List Str} {sp : Sp} {E : XK}
end
section
variable {X : Cx} {O Oi : List Kd} {k j : Nat} {ps : List Str} {mf : En → Option (D × En)} {c : Str} {pos : Pos} {a b : Expr} {ma mb : M}
end
section
variable {X : Cx} {e : Expr} {te : TE} {p apos cpos pos : Pos}
end
section
variable {X : Cx} {O : List Kd} {e : Expr} {m : M} {p apos cpos pos : Pos}
end
section
variable {X : Cx} {O : List Kd} {o e f : Expr} {apos cpos : Pos} {ka : Ak} {m mb mc : M}
end
section
variable {X : Cx} {O : List Kd} {pos p : Pos} {a b : Expr} {ma : MA} {ks : List Ak}
end
section
variable {X : Cx} {O : List Kd} {pos p : Pos} {a b : Expr} {ma : MA} {ks : List Ak}
end
section
variable {K : PySem.W.Frag} {O : List Kd}
structure New (K : PySem.W.Frag) (O : List Kd) (w0 w : Wd) (p : Addr) (d : D) : Prop where
  f : w.F p = none
  o : OwnO K w.F w.H p d
  np : ¬ Fp O w p
  old : Fp O w0 p ∨ w0.H p = none
  nb : hasO O = true → p ≠ ob O w.σ
theorem New.put {w0 : Wd} {F H : Hp} {σ : L2.St} {ρ : En} {p : Addr} {d : D} {i : Nat} (ok : Ok K O ⟨F, H, σ, ρ⟩) (st : StpS O w0 ⟨F, H, σ, ρ⟩) (n : New K O w0 ⟨F, H, σ, ρ⟩ p d) (hO : O[i]? = some Kd.ow) (hl : i < nl O) (h0 : hasO O = false ∨ i ≠ oi O) :
    Ok K O ⟨F, H, σ.set i (some (.ref p)), ρ.set i (some d)⟩ ∧ StpS O w0 ⟨F, H, σ.set i (some (.ref p)), ρ.set i (some d)⟩ ∧ ∀ q e, q ≠ p → New K O w0 ⟨F, H, σ, ρ⟩ q e → New K O w0 ⟨F, H, σ.set i (some (.ref p)), ρ.set i (some d)⟩ q e := by
  obtain ⟨h1, h2, h3, h4⟩ := ok.setOw (p := p) hO hl h0 n.f n.o n.np n.nb
  refine ⟨h1, ⟨st.ex, st.kp, st.nw, fun b hb => ?_, fun j kk g1 g2 => (h3 j kk g1 g2).1.trans (st.pn j kk g1 g2), fun j kk g1 g2 => ?_, st.lo, fun e => ⟨(h4 e).trans (st.o0 e).1, (st.o0 e).2⟩, st.tb⟩, fun q e hq nq => ⟨nq.f, nq.o, fun hb => ?_, nq.old, fun z => ?_⟩⟩
  · rcases h2 b hb with z | z
    · rw [z]
      exact n.old
    · exact st.fp b z
  · have gp : kk.pin = true := by
      cases kk <;> first | rfl | cases g2
    exact (h3 j kk g1 gp).2.trans (st.lk j kk g1 g2)
  · rcases h2 q hb with z | z
    · exact hq z
    · exact nq.np z
  · show q ≠ ob O (σ.set i (some (.ref p)))
    rw [h4 z]
    exact nq.nb z
end
section
variable {X : Cx} {O : List Kd} {pos pt pv p1 p2 p3 p4 : Pos} {ct cv : Nat} {x1 x2 x3 x4 : Str} {e1 e2 e3 e4 : Expr} {m1 m2 m3 m4 : M} {r : Ak}
end
section
variable {X : Cx} {O : List Kd} {pos pt pv p1 p2 : Pos} {kt k2 : Nat} {x y : Str} {e1 e2 : Expr} {m1 m2 : M} {r : Ak}
end
section
variable {X : Cx} {CX : CXT} {k : Nat} {f : Addr} {fd : FuncData} {ps : List Str} {sp : Sp} {E : XK} {x : Str} {p pos : Pos}
end
section
variable {X : Cx} {O : List Kd} {mf : En → Option (D × En)} {r : Ak} {x : Str} {p pos : Pos} {j k : Nat} {ps : List Str}
end
def ExtC (C : List Addr) (F : Hp) : Prop := ∀ c ∈ C, ∃ φ, F c = some (.ext φ)
section
variable {K : PySem.W.Frag} {F : Hp} {C : List Addr}
end
def ObC (C : List (Addr × Obj)) (F : Hp) : Prop := ∀ p ∈ C, F p.1 = some (ObO p.1 p.2)
theorem ObC.ext {C : List (Addr × Obj)} {F : Hp} (h : ObC C F) : ExtC (C.map (·.1)) F := fun c hc => by
  obtain ⟨p, hp, e⟩ := List.mem_map.mp hc
  subst e
  exact ⟨_, h p hp⟩
theorem ObC.mono {C : List (Addr × Obj)} {F F' : Hp} (h : ObC C F) (s : Same F F') : ObC C F' := fun p hp => s _ _ (h p hp)
section
variable {P : Program} {w : World} {K : PySem.W.Frag} {mg : Str → Option Value} {base : Heap} {A : Around} {outer : List Env} {s : Shared} {H H' : Hp} {C : List (Addr × Obj)} {h : Heap}
end
structure Apps (P : Program) (w : World) (K : PySem.W.Frag) (mg : Str → Option Value) (base : Heap) (k : Nat) (app : D → List D → Option D) : Prop where
  go : ∀ fd ds d, app fd ds = some d → ∀ (F : Hp) (v : V), Rp K F fd v → ∃ (f : Addr) (l : Bool), v = .ref f ∧
    ∀ A outer s H F1, Env0 P w K mg base A outer s H → Same F F1 → Same F1 H → ((l = true → PySem.W.FnAt f s.heap) ∧ (l = false → PySem.W.keepIn K (.ref f) = true)) ∧
      ∀ us vs Q, A.guards = some [] → Room k A → (∀ T, T ∈ tabsOf K → LamX.TabS H T qU ∧ F1 T = none) → RpA K F1 ds vs → Vals vs us → (∀ v' F' H', Pur F1 H F' H' → Rp K F' d v' → Q v' H') →
        codeAny (model P w) A (.call (.ref f) ⟨us, []⟩) (CR CX0 outer P w H s Q E0) s
def appOr (a b : D → List D → Option D) : D → List D → Option D := fun fd ds => match a fd ds with
  | some d => some d
  | none => b fd ds
section
variable {P : Program} {w : World} {K : PySem.W.Frag} {mg : Str → Option Value} {base : Heap} {k j : Nat} {a b app : D → List D → Option D}
theorem Apps.up (h : Apps P w K mg base j app) (l : j ≤ k) : Apps P w K mg base k app := ⟨fun fd ds d e F v r => by
  obtain ⟨f, l', e1, g⟩ := h.go fd ds d e F v r
  exact ⟨f, l', e1, fun A outer s H F1 e0 s1 s2 => ⟨(g A outer s H F1 e0 s1 s2).1, fun us vs Q gd hr => (g A outer s H F1 e0 s1 s2).2 us vs Q gd (hr.mono l)⟩⟩⟩
theorem Apps.or (h : Apps P w K mg base k a) (g : Apps P w K mg base k b) : Apps P w K mg base k (appOr a b) := ⟨fun fd ds d e => by
  unfold appOr at e
  split at e
  · rename_i d' e'
    cases e
    exact h.go fd ds d e'
  · exact g.go fd ds d e⟩
end
structure LamP (N : List Str) (sc : Scope) : Prop where
  kind : sc.kind = .function
  co : sc.isCoroutine = false
  gen : sc.isGenerator = false
  nd : N.Nodup
  ne : N ≠ []
  own : ∀ y ∈ sc.names, y.2 ≠ .cell
  loc : ∀ y, N.head? = some y → sc.names.lookup y = some .local
  fre : ∀ y ∈ N.tail, sc.names.lookup y = some .free
  all : ∀ y ∈ sc.names, y.2 = .free → y.1 ∈ N.tail
def Cells (h : Heap) : List Str → List (Str × Addr) → List V → Prop
  | [], cl, vs => cl = [] ∧ vs = []
  | y :: ys, cl, vs => ∃ c cr v vr u, cl = (y, c) :: cr ∧ vs = v :: vr ∧ RelV v u ∧ h.IsCell c (some u) ∧ Cells h ys cr vr
theorem Cells.keys {h : Heap} : ∀ {ys : List Str} {cl : List (Str × Addr)} {vs : List V}, Cells h ys cl vs → cl.map (·.1) = ys
  | [], _, _, ⟨e, _⟩ => by
    rw [e]
    rfl
  | y :: ys, _, _, ⟨c, cr, v, vr, u, e1, e2, r, k, t⟩ => by
    rw [e1, List.map_cons, t.keys]
theorem Cells.len {h : Heap} : ∀ {ys : List Str} {cl : List (Str × Addr)} {vs : List V}, Cells h ys cl vs → vs.length = ys.length
  | [], _, _, ⟨_, e⟩ => by
    rw [e]
    rfl
  | y :: ys, _, _, ⟨c, cr, v, vr, u, e1, e2, r, k, t⟩ => by
    rw [e2, List.length_cons, List.length_cons, t.len]
theorem Cells.mem {h : Heap} : ∀ {ys : List Str} {cl : List (Str × Addr)} {vs : List V} {y : Str} {c : Addr}, Cells h ys cl vs → (y, c) ∈ cl → ∃ u, h.IsCell c (some u)
  | [], _, _, _, _, ⟨e, _⟩, m => by
    rw [e] at m
    exact (List.not_mem_nil m).elim
  | y :: ys, _, _, _, _, ⟨c, cr, v, vr, u, e1, e2, r, k, t⟩, m => by
    rw [e1] at m
    rcases List.mem_cons.mp m with z | z
    · cases z
      exact ⟨u, k⟩
    · exact t.mem z
theorem Cells.at {h : Heap} : ∀ {ys : List Str} {cl : List (Str × Addr)} {vs : List V} {i : Nat} {y : Str} {v : V}, Cells h ys cl vs → ys.Nodup → ys[i]? = some y → vs[i]? = some v → ∃ c u, cl.lookup y = some c ∧ RelV v u ∧ h.IsCell c (some u)
  | [], _, _, i, _, _, _, _, e, _ => by simp at e
  | y :: ys, _, _, 0, y', v', ⟨c, cr, v, vr, u, e1, e2, r, k, t⟩, nd, a, b => by
    subst e1 e2
    have a : y = y' := by simpa using a
    have b : v = v' := by simpa using b
    subst a b
    exact ⟨c, u, by simp [List.lookup], r, k⟩
  | y :: ys, _, _, i + 1, y', v', ⟨c, cr, v, vr, u, e1, e2, r, k, t⟩, nd, a, b => by
    subst e1 e2
    have a : ys[i]? = some y' := by simpa using a
    have b : vr[i]? = some v' := by simpa using b
    obtain ⟨nd1, nd2⟩ := List.nodup_cons.mp nd
    obtain ⟨c2, u2, g1, g2, g3⟩ := t.at nd2 a b
    refine ⟨c2, u2, ?_, g2, g3⟩
    have hne : (y' == y) = false := by
      rw [beq_eq_false_iff_ne]
      intro z
      rw [z] at a
      exact nd1 (List.mem_of_getElem? a)
    rw [List.lookup_cons, hne]
    exact g1
theorem Cells.kept {h h' : Heap} (k : ∀ b o, h.get? b = some o → h'.get? b = some o) : ∀ {ys : List Str} {cl : List (Str × Addr)} {vs : List V}, Cells h ys cl vs → Cells h' ys cl vs
  | [], _, _, e => e
  | y :: ys, _, _, ⟨c, cr, v, vr, u, e1, e2, r, ⟨o, k1, k2⟩, t⟩ => ⟨c, cr, v, vr, u, e1, e2, r, ⟨o, k _ _ k1, k2⟩, t.kept k⟩
section
variable {P : Program} {w : World} {K : PySem.W.Frag} {mg : Str → Option Value} {base : Heap} {A : Around} {outer : List Env} {s : Shared} {H : Hp} {N : List Str} {sc : Scope} {f c' : Addr} {cl : List (Str × Addr)} {h₁ : Heap} {tk : Nat} {y0 : Str} {ys : List Str} {v0 : V} {u0 : Value} {vs : List V}
end
section
variable {P : Program} {w : World} {K : PySem.W.Frag} {mg : Str → Option Value} {base : Heap} {k n : Nat} {ps : Arguments} {b : Expr} {sc : Scope} {y0 : Str} {ys : List Str} {m : M} {Ol : List Kd}
end
section
variable {X : Cx} {O : List Kd} {x : Str} {p pos : Pos} {j k i : Nat} {e : Expr} {es : List Expr} {app : D → List D → Option D} {ma : MA} {ks : List Ak}
end
section
variable {X : Cx} {pins : List (Addr × Obj)} {σ : L2.St} {H : Hp} {s : Shared} {c P : Addr} {pr : Arguments} {bd : Expr} {sc : Scope} {pos : Pos}
end
def capOk (X : Cx) (O : List Kd) : List Str → List Nat → Prop
  | [], [] => True
  | y :: ys, j :: js => X.N[j]? = some y ∧ O[j]? = some Kd.fz ∧ j < nl O ∧ X.env.scope.names.lookup y = some .cell ∧ X.fn y = true ∧ capOk X O ys js
  | _, _ => False
theorem capOk.cell {X : Cx} {O : List Kd} : ∀ {ys : List Str} {js : List Nat}, capOk X O ys js → ∀ y ∈ ys, X.env.scope.names.lookup y = some .cell
  | [], _, _, y, m => (List.not_mem_nil m).elim
  | y0 :: ys, [], h, _, _ => h.elim
  | y0 :: ys, j :: js, ⟨h1, h2, h3, h4, h5, h6⟩, y, m => by
    rcases List.mem_cons.mp m with z | z
    · rw [z]
      exact h4
    · exact h6.cell y z
section
variable {X : Cx} {O : List Kd} {x : Str} {p lp pos : Pos} {j k n : Nat} {e : Expr} {m : M} {ys : List Str} {js : List Nat} {mf : En → Option (D × En)} {pr : Arguments} {bd : Expr} {sc : Scope} {c P : Addr} {fps : List Str}
end
def CdK (K : PySem.W.Frag) (f : Addr) (cd : Value) : Prop := ∃ oc od fd osl, K.lookup f = some ⟨oc, od, .func fd, osl⟩ ∧ fd.code = cd
section
variable {P : Program} {w : World} {K : PySem.W.Frag} {mg : Str → Option Value} {base : Heap} {CX : CXT} {f : Addr} {fd : FuncData}
end
structure LamU (K : PySem.W.Frag) (base : Heap) (mg : Str → Option Value) (c P : Addr) : Prop where
  tab : LamX.TabB base mg c P
  mem : P ∈ tabsOf K
  code : ∀ cd, CdK K (He.ma K (He.ga K "Units") "__init__") cd → cd = .ref c
section
variable {X : Cx} {O Oi : List Kd} {k j : Nat} {ps : List Str} {mf : En → Option (D × En)} {c x : Str} {p pos : Pos} {e : Expr} {es : List Expr} {ma : MA} {ks : List Ak}
end
def m_is_number : MS := (mRet (mAndV (m1 (.fz) (mVar 0) (dIs "int")) (mAndV (mNotV (m1 (.fz) (mVar 0) (dIs "bool"))) (mChain (fun i j => decide (i ≤ j)) (fun i j => decide (i ≤ j)) (mVar 1) (mVar 0) (mVar 2)))))
def f_is_number : En → Option (D × En) := mFun [.fz, .fz, .fz] 0 .fz m_is_number
def m_takes : MS := (mSeq (mAsg (mgT 3 (mgCons (mgN 1) (mgCons (mgN 2) (mgCons (mgN 3) mgNil)))) (mVar 0))
  (mSeq (mIte (mTr (m2 (.fz) (.fz) (mVar 1) (mTup (maCons (mC (.str "copy")) (maCons (mC (.str "swap")) maNil))) dInU)) (mRet (mVar 2)) mSkip)
  (mSeq (mIte (mTr (m2 (.fz) (.fz) (mVar 1) (mC (.tuple [(.str "add"), (.str "sub"), (.str "mul"), (.str "div"), (.str "rest"), (.str "less"), (.str "same")])) dInU)) (mRet (mC (.int 2))) mSkip)
  (mRet (mOp [.fz] (maCons (mOrV (m2 (.fz) (.fz) (mVar 1) (mTup (maCons (mC (.str "store")) (maCons (mC (.str "drop")) (maCons (mC (.str "neg")) (maCons (mC (.str "not")) (maCons (mC (.str "tell")) (maCons (mC (.str "return")) (maCons (mC (.str "raise")) maNil)))))))) dInU) (m2 (.fz) (.fz) (mVar 1) (mC (.tuple [(.str "iftrue"), (.str "iffalse"), (.str "ortrue"), (.str "orfalse")])) dInU)) maNil) dInt)))))
def f_takes : En → Option (D × En) := mFun [.fz] 3 .fz m_takes
def m_grows : MS := (mSeq (mSet 1 (m2 (.fz) (.fz) (mVar 0) (mC (.int 0)) dIxU))
  (mSeq (mIte (mTr (m2 (.fz) (.fz) (mVar 1) (mTup (maCons (mC (.str "push")) (maCons (mC (.str "load")) (maCons (mC (.str "quick")) (maCons (mC (.str "copy")) maNil))))) dInU)) (mRet (mC (.int 1))) mSkip)
  (mRet (mIf (mOr (mTr (m2 (.fz) (.fz) (mVar 1) (mC (.tuple [(.str "add"), (.str "sub"), (.str "mul"), (.str "div"), (.str "rest"), (.str "less"), (.str "same")])) dInU)) (mTr (m2 (.fz) (.fz) (mVar 1) (mTup (maCons (mC (.str "store")) (maCons (mC (.str "drop")) (maCons (mC (.str "tell")) maNil)))) dInU))) (m1 (.fz) (mC (.int 1)) dNeg) (mC (.int 0))))))
def f_grows : En → Option (D × En) := mFun [.fz] 1 .fz m_grows
def m__law_town : MS := (mRet (m2 (.ow) (.ow) (mLst (maCons (mC (.int 0)) maNil)) (mOp [.fz] (maCons (mVar 0) maNil) dList) dCat))
def f__law_town : En → Option (D × En) := mFun [.fz] 0 .ow m__law_town
def m__law_draw : MS := (mSeq (mPutU 1 (mC (.int 0)) (m2 (.fz) (.fz) (m2 (.br 1) (.fz) (mBr 1) (mC (.int 0)) dIxU) (mC (.int 1)) dAddU))
  (mSeq (mIte (mTr (m2 (.fz) (.ow) (mVar 0) (mLst maNil) dEqU)) (mRet (m2 (.fz) (.fz) (m2 (.fz) (.fz) (m2 (.fz) (.fz) (m2 (.fz) (.fz) (m2 (.br 1) (.fz) (mBr 1) (mC (.int 0)) dIxU) (m2 (.br 1) (.fz) (mBr 1) (mC (.int 0)) dIxU) dMul) (mC (.int 7)) dMul) (mC (.int 3)) dDivX) (mVar 2) dMod)) mSkip)
  (mSeq (mSet 3 (m2 (.fz) (.fz) (m2 (.br 1) (.fz) (mBr 1) (mC (.int 0)) dIxU) (mOp [.fz] (maCons (mVar 0) maNil) dLenU) dMod))
  (mSeq (mSet 4 (m2 (.br 1) (.fz) (mBr 1) (m2 (.fz) (.fz) (mC (.int 1)) (mVar 3) dAddU) dIxU))
  (mSeq (mIte (mAnd (mTr (m2 (.fz) (.fz) (m2 (.fz) (.fz) (mVar 0) (mVar 3) dIxU) (m2 (.fz) (.fz) (mC (.int 10)) (mC (.int 18)) dPow) dGe)) (mTr (m2 (.fz) (.fz) (mVar 4) (mC (.int 0)) dGt))) (mSeq (mPutU 1 (m2 (.fz) (.fz) (mC (.int 1)) (mVar 3) dAddU) (m2 (.fz) (.fz) (mVar 4) (mVar 2) dDivX))
  (mRet (m2 (.fz) (.fz) (mVar 4) (mVar 2) dMod))) mSkip)
  (mSeq (mSet 5 (m2 (.fz) (.fz) (m2 (.fz) (.fz) (m2 (.fz) (.fz) (mVar 0) (mVar 3) dIxU) (m2 (.fz) (.fz) (mC (.int 104729)) (m2 (.br 1) (.fz) (mBr 1) (mC (.int 0)) dIxU) dMul) dAddU) (mC (.int 4294967291)) dMod))
  (mSeq (mSet 5 (m2 (.fz) (.fz) (m2 (.fz) (.fz) (mVar 5) (mC (.int 5)) dPow) (mC (.int 4294967279)) dMod))
  (mRet (m2 (.fz) (.fz) (m2 (.fz) (.fz) (m2 (.fz) (.fz) (m2 (.fz) (.fz) (m2 (.fz) (.fz) (m2 (.fz) (.fz) (mVar 5) (mC (.int 64)) dDivX) (mC (.int 69621)) dMul) (mVar 5) dAddU) (mC (.int 4294967231)) dMod) (mC (.int 8)) dDivX) (mVar 2) dMod)))))))))
def f__law_draw : En → Option (D × En) := mFun [.fz, .io, .fz] 3 .fz m__law_draw
def m__law_whole : MS := (mRet (mAndV (m1 (.fz) (mVar 0) (dIs "int")) (mNotV (m1 (.fz) (mVar 0) (dIs "bool")))))
def f__law_whole : En → Option (D × En) := mFun [.fz] 0 .fz m__law_whole
def m__law_wholes : MS := (mRet (mAndV (m1 (.fz) (mVar 0) (dIs "list")) (m2 (.ow) (.ow) (mLc (mItU (mVar 0)) (mgN 1) (mNot (mTr (mCall f__law_whole [.fz] [] (maCons (mVar 1) maNil)))) (mVar 1) [1]) (mLst maNil) dEqU)))
def f__law_wholes : En → Option (D × En) := mFun [.fz] 1 .fz m__law_wholes
inductive Val where
  | non | bool (b : Bool) | int (i : Int) | str (s : Str)
  deriving DecidableEq
def Val.d : Val → D
  | .non => .none
  | .bool b => .bool b
  | .int i => .int i
  | .str s => .str s
inductive NOp where
  | load | quick | store | clear
  deriving DecidableEq
def NOp.s : NOp → Str
  | .load => "load" | .quick => "quick" | .store => "store" | .clear => "clear"
inductive JOp where
  | jump | iftrue | iffalse | ortrue | orfalse
  deriving DecidableEq
def JOp.s : JOp → Str
  | .jump => "jump" | .iftrue => "iftrue" | .iffalse => "iffalse" | .ortrue => "ortrue" | .orfalse => "orfalse"
inductive POp where
  | add | sub | mul | div | rest | less | same
  deriving DecidableEq
def POp.s : POp → Str
  | .add => "add" | .sub => "sub" | .mul => "mul" | .div => "div" | .rest => "rest" | .less => "less" | .same => "same"
inductive BOp where
  | neg | not | drop | tell | ret | rais
  deriving DecidableEq
def BOp.s : BOp → Str
  | .neg => "neg" | .not => "not" | .drop => "drop" | .tell => "tell" | .ret => "return" | .rais => "raise"
inductive Row where
  | push (v : Val) (l : Nat)
  | nm (o : NOp) (n : Str) (l : Nat)
  | copy (n : Nat) (l : Nat)
  | swap (n : Nat) (l : Nat)
  | jmp (o : JOp) (m : Nat) (l : Nat)
  | tri (m : Nat) (l : Nat)
  | label (m : Nat) (l : Nat)
  | pr (o : POp) (l : Nat)
  | bare (o : BOp) (l : Nat)
  | endtry (l : Nat)
  deriving DecidableEq
abbrev dN (n : Nat) : D := .int (n : Int)
abbrev dRow (o : Str) (a : D) (l : Nat) : D := .tuple [.str o, a, dN l]
def Row.d : Row → D
  | .push v l => dRow "push" v.d l
  | .nm o n l => dRow o.s (.str n) l
  | .copy n l => dRow "copy" (dN n) l
  | .swap n l => dRow "swap" (dN n) l
  | .jmp o m l => dRow o.s (dN m) l
  | .tri m l => dRow "try" (dN m) l
  | .label m l => dRow "label" (dN m) l
  | .pr o l => dRow o.s .none l
  | .bare o l => dRow o.s .none l
  | .endtry l => dRow "endtry" .none l
abbrev Code := List Row
abbrev Code.d (c : Code) : D := .list (c.map Row.d)
def Row.takes : Row → Nat
  | .copy n _ => n
  | .swap n _ => n
  | .pr _ _ => 2
  | .nm .store _ _ => 1
  | .bare _ _ => 1
  | .jmp .jump _ _ => 0
  | .jmp _ _ _ => 1
  | _ => 0
theorem takes_ok (r : Row) : f_takes [some r.d] = some (dN r.takes, [none]) := by
  cases r with
  | nm o n l => cases o <;> rfl
  | jmp o m l => cases o <;> rfl
  | pr o l => cases o <;> rfl
  | bare o l => cases o <;> rfl
  | push v l => rfl
  | copy v l => rfl
  | swap v l => rfl
  | tri v l => rfl
  | label v l => rfl
  | endtry l => rfl
def Row.grows : Row → Int
  | .push _ _ => 1
  | .nm .load _ _ => 1
  | .nm .quick _ _ => 1
  | .copy _ _ => 1
  | .pr _ _ => -1
  | .nm .store _ _ => -1
  | .bare .drop _ => -1
  | .bare .tell _ => -1
  | _ => 0
theorem grows_ok (r : Row) : f_grows [some r.d] = some (.int r.grows, [none]) := by
  cases r with
  | nm o n l => cases o <;> rfl
  | jmp o m l => cases o <;> rfl
  | pr o l => cases o <;> rfl
  | bare o l => cases o <;> rfl
  | push v l => rfl
  | copy v l => rfl
  | swap v l => rfl
  | tri v l => rfl
  | label v l => rfl
  | endtry l => rfl
section
variable {ρ : En} {i n : Nat} {d : D} {a b : MS} {m m2 : M} {ma : MA} {mt mt2 : MT} {ks : List Ak} {op : List D → Option D} {g : MG}
def kVar (ρ : En) : Option D → Option (D × En)
  | some d => some (d, ρ)
  | none => none
@[simp] theorem kVar_some : kVar ρ (some d) = some (d, ρ) := rfl
theorem slotM {α : Type} {f : D → Option α} : (match ρ[i]? with | some (some d) => f d | _ => none) = (at? ρ i).bind f := by
  unfold at?
  cases h : ρ[i]? with
  | none => rfl
  | some o => cases o <;> rfl
theorem v_var : mVar i ρ = (at? ρ i).bind fun d => some (d, ρ) := slotM
theorem v_mv : mMv i ρ = (at? ρ i).bind fun d => some (d, ρ.set i none) := slotM
theorem v_br : mBr i ρ = (at? ρ i).bind fun _ => some (.none, ρ) := slotM
theorem v_C : mC d ρ = some (d, ρ) := rfl
theorem v_aNil : maNil ρ = some ([], ρ) := rfl
theorem v_aCons : maCons m ma ρ = (m ρ).bind fun p => (ma p.2).bind fun q => some (p.1 :: q.1, q.2) := rfl
theorem v_op : mOp ks ma op ρ = (ma ρ).bind fun p => (fill ks p.1 p.2).bind fun ds => (op ds).bind fun d => some (d, p.2) := by
  unfold mOp
  simp only [Option.map_eq_bind]
  try rfl
theorem v_m1 {k : Ak} : m1 k m op ρ = (m ρ).bind fun p => (fill [k] [p.1] p.2).bind fun ds => (op ds).bind fun d => some (d, p.2) := by
  unfold m1
  rw [v_op, v_aCons]
  simp only [v_aNil, Option.bind_assoc, Option.bind_some]
theorem v_m2 {k k2 : Ak} : DL.m2 k k2 m m2 op ρ = (m ρ).bind fun p => (m2 p.2).bind fun q => (fill [k, k2] [p.1, q.1] q.2).bind fun ds => (op ds).bind fun d => some (d, q.2) := by
  unfold DL.m2
  rw [v_op, v_aCons]
  simp only [v_aNil, v_aCons, Option.bind_assoc, Option.bind_some]
def kTr (p : D × En) : Option (Bool × En) := match p.1 with
  | .bool b => some (b, p.2)
  | _ => none
@[simp] theorem kTr_b {b : Bool} : kTr (.bool b, ρ) = some (b, ρ) := rfl
theorem v_tr : mTr m ρ = (m ρ).bind kTr := rfl
theorem v_and : mAnd mt mt2 ρ = (mt ρ).bind fun p => if p.1 = true then mt2 p.2 else some (false, p.2) := rfl
theorem v_or : mOr mt mt2 ρ = (mt ρ).bind fun p => if p.1 = true then some (true, p.2) else mt2 p.2 := rfl
theorem v_not : mNot mt ρ = (mt ρ).bind fun p => some (!p.1, p.2) := Option.map_eq_bind ..
theorem v_andV : mAndV m m2 ρ = (mTr m ρ).bind fun p => if p.1 = true then m2 p.2 else some (.bool false, p.2) := rfl
theorem v_orV : mOrV m m2 ρ = (mTr m ρ).bind fun p => if p.1 = true then some (.bool true, p.2) else m2 p.2 := rfl
theorem v_notV : mNotV m ρ = (mTr m ρ).bind fun p => some (.bool (!p.1), p.2) := Option.map_eq_bind ..
theorem v_if : mIf mt m m2 ρ = (mt ρ).bind fun p => if p.1 = true then m p.2 else m2 p.2 := rfl
theorem v_tup : mTup ma ρ = (ma ρ).bind fun p => some (.tuple p.1, p.2) := Option.map_eq_bind ..
theorem v_lst : mLst ma ρ = (ma ρ).bind fun p => some (.list p.1, p.2) := Option.map_eq_bind ..
def kSeq (b : MS) (p : Fl × En) : Option (Fl × En) := match p.1 with
  | .nx => b p.2
  | f => some (f, p.2)
@[simp] theorem kSeq_nx : kSeq b (.nx, ρ) = b ρ := rfl
@[simp] theorem kSeq_rt : kSeq b (.rt d, ρ) = some (.rt d, ρ) := rfl
@[simp] theorem kSeq_bk : kSeq b (.bk, ρ) = some (.bk, ρ) := rfl
@[simp] theorem kSeq_ct : kSeq b (.ct, ρ) = some (.ct, ρ) := rfl
theorem v_seq : mSeq a b ρ = (a ρ).bind (kSeq b) := rfl
theorem v_skip : mSkip ρ = some (.nx, ρ) := rfl
theorem v_break : mBreak ρ = some (.bk, ρ) := rfl
theorem v_cont : mCont ρ = some (.ct, ρ) := rfl
theorem v_drop : mDrop m ρ = (m ρ).bind fun p => some (.nx, p.2) := Option.map_eq_bind ..
theorem v_ret : mRet m ρ = (m ρ).bind fun p => some (.rt p.1, p.2) := Option.map_eq_bind ..
theorem v_ite : mIte mt a b ρ = (mt ρ).bind fun p => if p.1 = true then a p.2 else b p.2 := rfl
theorem v_set : mSet i m ρ = (m ρ).bind fun p => some (.nx, p.2.set i (some p.1)) := Option.map_eq_bind ..
theorem v_fz : mFz i a ρ = (a ρ).bind fun p => some (p.1, p.2.set i none) := Option.map_eq_bind ..
theorem v_th : mTh i a ρ = (a (ρ.set i none)).bind fun p => some (p.1, p.2.set i none) := Option.map_eq_bind ..
theorem v_asg : mAsg g m ρ = (m ρ).bind fun p => (g p.1 p.2).bind fun ρ' => some (.nx, ρ') := by
  show (m ρ).bind _ = _
  simp only [Option.map_eq_bind]
  try rfl
theorem v_aug : mAug i m op ρ = (at? ρ i).bind fun d => (m ρ).bind fun p => (op [d, p.1]).bind fun z => some (.nx, p.2.set i (some z)) := by
  unfold mAug
  simp only [Option.map_eq_bind]
  exact slotM
theorem v_call {mf : En → Option (D × En)} {dd : List D} : mCall mf ks dd ma ρ = (ma ρ).bind fun p => (fill ks p.1 p.2).bind fun ds => (mf ((ds ++ dd).map some)).bind fun z => some (z.1, putB ks z.2 p.2) := rfl
def kFun (Oi : List Kd) (r : Ak) (p : Fl × En) : Option (D × En) := match p.1 with
  | .rt d => some (d, outE Oi p.2)
  | .nx => (match r with
    | .fz => some (.none, outE Oi p.2)
    | _ => none)
  | _ => none
@[simp] theorem kFun_rt {Oi : List Kd} {r : Ak} : kFun Oi r (.rt d, ρ) = some (d, outE Oi ρ) := rfl
@[simp] theorem kFun_nx {Oi : List Kd} : kFun Oi .fz (.nx, ρ) = some (.none, outE Oi ρ) := rfl
theorem v_fun {Oi : List Kd} {r : Ak} : mFun Oi n r a ρ = (a (ρ ++ List.replicate n none)).bind (kFun Oi r) := rfl
theorem v_mut {T : String} {op : D → List D → Option (D × D)} : mMut i T ma op ρ = (at? ρ i).bind fun d1 => if isTy T d1 = true then (ma ρ).bind fun q => (at? q.2 i).bind fun d0 => (op d0 q.1).bind fun z => some (z.1, q.2.set i (some z.2)) else none := by
  unfold mMut
  simp only [Option.map_eq_bind]
  refine slotM.trans ?_
  congr 1
  funext d1
  by_cases h : isTy T d1 = true
  · rw [if_pos h, if_pos h]
    congr 1
    funext q
    exact slotM
  · rw [if_neg h, if_neg h]
theorem v_no : mNo ρ = some (none, ρ) := rfl
def kPt (p : D × En) : Option (Option Int × En) := match p.1 with
  | .int i => some (some i, p.2)
  | _ => none
@[simp] theorem kPt_i {j : Int} : kPt (.int j, ρ) = some (some j, ρ) := rfl
theorem v_pt : mPt m ρ = (m ρ).bind kPt := rfl
def kSl (f : D → Option D) (ρ : En) : List D → Option (D × En)
  | [d] => (f d).bind fun y => some (y, ρ)
  | _ => none
@[simp] theorem kSl_1 {f : D → Option D} : kSl f ρ [d] = (f d).bind fun y => some (y, ρ) := rfl
theorem v_sl {ka : Ak} {lo hi : MO} {op : D → Option Int → Option Int → Option D} : mSl ka m lo hi op ρ = (m ρ).bind fun p => (lo p.2).bind fun q => (hi q.2).bind fun z => (fill [ka] [p.1] z.2).bind (kSl (fun d => op d q.1 z.1) z.2) := by
  unfold mSl
  simp only [Option.map_eq_bind]
  congr 1
def kCh (f g : Int → Int → Bool) (mc : M) (x : D) (p : D × En) : Option (D × En) := match x, p.1 with
  | .int i, .int j => if f i j = true then (mc p.2).bind fun z => (match z.1 with
      | .int n => some (.bool (g j n), z.2)
      | _ => none)
    else some (.bool false, p.2)
  | _, _ => none
def kCh2 (g : Int → Int → Bool) (j : Int) (z : D × En) : Option (D × En) := match z.1 with
  | .int n => some (.bool (g j n), z.2)
  | _ => none
@[simp] theorem kCh2_i {g : Int → Int → Bool} {j k : Int} : kCh2 g j (.int k, ρ) = some (.bool (g j k), ρ) := rfl
@[simp] theorem kCh_i {f g : Int → Int → Bool} {mc : M} {i j : Int} : kCh f g mc (.int i) (.int j, ρ) = if f i j = true then (mc ρ).bind (kCh2 g j) else some (.bool false, ρ) := rfl
theorem v_chain {f g : Int → Int → Bool} {mb mc : M} : mChain f g m mb mc ρ = (m ρ).bind fun p => (mb p.2).bind (kCh f g mc p.1) := rfl
def kItL (p : D × En) : Option (List D × En) := match p.1 with
  | .list ds => some (ds, p.2)
  | _ => none
@[simp] theorem kItL_l {ds : List D} : kItL (.list ds, ρ) = some (ds, ρ) := rfl
theorem v_itL : mItL m ρ = (m ρ).bind kItL := rfl
@[simp] theorem outE_fz {ks : List Kd} {x : Option D} : outE (.fz :: ks) (x :: ρ) = none :: outE ks ρ := rfl
@[simp] theorem outE_io {ks : List Kd} {x : Option D} : outE (.io :: ks) (x :: ρ) = x :: outE ks ρ := rfl
theorem v_for {mi : MI} : mFor mi g a ρ = (mi ρ).bind fun p => mForL p.1 g a p.2 := rfl
theorem v_lc {mi : MI} {vs : List Nat} : mLc mi g mt m vs ρ = (mi ρ).bind fun p => (mLcL p.1 g mt m vs [] p.2).bind fun q => some (.list q.1, restE p.2 vs q.2) := by
  unfold mLc
  simp only [Option.map_eq_bind]
  try rfl
end
local macro_rules | `(tactic| exists $es,*) => `(tactic| simp only [v_var, v_mv, v_br, v_C, v_aNil, v_aCons, v_op, v_m1, v_m2, v_tr, v_and, v_or, v_not, v_andV, v_orV, v_notV, v_if, v_tup, v_lst, v_seq, v_skip, v_break, v_cont, v_drop, v_ret, v_ite, v_set, v_fz, v_th, v_asg, v_aug, v_call, v_fun, v_mut, v_no, v_pt, v_sl, v_chain, v_itL, v_for, v_lc,
  kTr_b, kSeq_nx, kSeq_rt, kSeq_bk, kSeq_ct, kFun_rt, kFun_nx, kPt_i, kSl_1, kCh_i, kCh2_i, kItL_l, Option.bind_some, Option.bind_none, at_zero, at_succ, at_nil, fill_nil, fill_fz, fill_ow, fill_br, Option.map_some, List.set_cons_zero, List.set_cons_succ, List.set_nil, List.map_cons, List.map_nil, List.cons_append, List.nil_append, List.append_nil, List.replicate_succ, List.replicate_zero, putB_nil, putB_br, putB_fz, putB_ow, outE_nil, outE_fz, outE_io, mgN_e, mgNil_e, mgCons_e, mgT_e, mgL_e, List.length_cons, List.length_nil, if_true, if_false, reduceIte, Bool.false_eq_true, Bool.not_true, Bool.not_false, decide_true, decide_false, dSub_i, dAdd_i, dAddU_i, dLt_i, dLe_i, dGt_i, dGe_i, dNeg_i, $[$es:term],*])
structure St where
  d : Int
  g : List (Nat × Int)
  deriving DecidableEq
abbrev gD (p : Nat × Int) : D := .tuple [dN p.1, .int p.2]
def gsD (g : List (Nat × Int)) : List D := g.reverse.map gD
def St.D (s : St) : D := .tuple [.int s.d, .tuple (gsD s.g)]
def whD (w : List (Nat × Nat)) : D := .dict (w.map fun p => (dN p.1, dN p.2))
def Row.op : Row → Str
  | .push _ _ => "push"
  | .nm o _ _ => o.s
  | .copy _ _ => "copy"
  | .swap _ _ => "swap"
  | .jmp o _ _ => o.s
  | .tri _ _ => "try"
  | .label _ _ => "label"
  | .pr o _ => o.s
  | .bare o _ => o.s
  | .endtry _ => "endtry"
def Row.arg : Row → D
  | .push v _ => v.d
  | .nm _ n _ => .str n
  | .copy n _ => dN n
  | .swap n _ => dN n
  | .jmp _ m _ => dN m
  | .tri m _ => dN m
  | .label m _ => dN m
  | .pr _ _ => .none
  | .bare _ _ => .none
  | .endtry _ => .none
def Row.line : Row → Nat
  | .push _ l => l
  | .nm _ _ l => l
  | .copy _ l => l
  | .swap _ l => l
  | .jmp _ _ l => l
  | .tri _ l => l
  | .label _ l => l
  | .pr _ l => l
  | .bare _ l => l
  | .endtry l => l
theorem Row.d_eq (r : Row) : r.d = .tuple [.str r.op, r.arg, dN r.line] := by cases r <;> rfl
section
variable {ρ : En} (r : Row) {i j k : Nat}
theorem row_0 : dIxU [r.d, .int 0] = some (.str r.op) := by
  rw [Row.d_eq]
  rfl
theorem row_1 : dIxU [r.d, .int 1] = some r.arg := by
  rw [Row.d_eq]
  rfl
theorem row_2 : dIxU [r.d, .int 2] = some (dN r.line) := by
  rw [Row.d_eq]
  rfl
theorem row_3 : mgT 3 (mgCons (mgN i) (mgCons (mgN j) (mgCons (mgN k) mgNil))) r.d ρ = some (((ρ.set i (some (.str r.op))).set j (some r.arg)).set k (some (dN r.line))) := by
  rw [Row.d_eq]
  rfl
end
def Row.isJump : Row → Bool
  | .jmp .jump _ _ => true
  | _ => false
def Row.isBranch : Row → Bool
  | .jmp .jump _ _ => false
  | .jmp _ _ _ => true
  | _ => false
def Row.isIf : Row → Bool
  | .jmp .iftrue _ _ => true
  | .jmp .iffalse _ _ => true
  | _ => false
def Row.isTri : Row → Bool
  | .tri _ _ => true
  | _ => false
def Row.isEndtry : Row → Bool
  | .endtry _ => true
  | _ => false
def Row.isEnd : Row → Bool
  | .bare .ret _ => true
  | .bare .rais _ => true
  | _ => false
def Row.isCopy : Row → Bool
  | .copy _ _ => true
  | _ => false
def Row.isFaulty : Row → Bool
  | .nm .load _ _ => true
  | .nm .clear _ _ => true
  | .pr .same _ => false
  | .pr _ _ => true
  | .bare .neg _ => true
  | .bare .rais _ => true
  | _ => false
section
variable {r : Row}
theorem o_jump : dEqU [.str r.op, .str "jump"] = some (.bool r.isJump) := by
  cases r with
  | nm o n l => cases o <;> kernel_rfl
  | jmp o m l => cases o <;> kernel_rfl
  | pr o l => cases o <;> kernel_rfl
  | bare o l => cases o <;> kernel_rfl
  | _ => kernel_rfl
theorem o_branch : dInU [.str r.op, .tuple [(.str "iftrue"), (.str "iffalse"), (.str "ortrue"), (.str "orfalse")]] = some (.bool r.isBranch) := by
  cases r with
  | nm o n l => cases o <;> kernel_rfl
  | jmp o m l => cases o <;> kernel_rfl
  | pr o l => cases o <;> kernel_rfl
  | bare o l => cases o <;> kernel_rfl
  | _ => kernel_rfl
theorem o_if : dInU [.str r.op, .tuple [(.str "iftrue"), (.str "iffalse")]] = some (.bool r.isIf) := by
  cases r with
  | nm o n l => cases o <;> kernel_rfl
  | jmp o m l => cases o <;> kernel_rfl
  | pr o l => cases o <;> kernel_rfl
  | bare o l => cases o <;> kernel_rfl
  | _ => kernel_rfl
theorem o_try : dEqU [.str r.op, .str "try"] = some (.bool r.isTri) := by
  cases r with
  | nm o n l => cases o <;> kernel_rfl
  | jmp o m l => cases o <;> kernel_rfl
  | pr o l => cases o <;> kernel_rfl
  | bare o l => cases o <;> kernel_rfl
  | _ => kernel_rfl
theorem o_endtry : dEqU [.str r.op, .str "endtry"] = some (.bool r.isEndtry) := by
  cases r with
  | nm o n l => cases o <;> kernel_rfl
  | jmp o m l => cases o <;> kernel_rfl
  | pr o l => cases o <;> kernel_rfl
  | bare o l => cases o <;> kernel_rfl
  | _ => kernel_rfl
theorem o_end : dInU [.str r.op, .tuple [(.str "return"), (.str "raise")]] = some (.bool r.isEnd) := by
  cases r with
  | nm o n l => cases o <;> kernel_rfl
  | jmp o m l => cases o <;> kernel_rfl
  | pr o l => cases o <;> kernel_rfl
  | bare o l => cases o <;> kernel_rfl
  | _ => kernel_rfl
theorem o_ncopy : dNeU [.str r.op, .str "copy"] = some (.bool (!r.isCopy)) := by
  cases r with
  | nm o n l => cases o <;> kernel_rfl
  | jmp o m l => cases o <;> kernel_rfl
  | pr o l => cases o <;> kernel_rfl
  | bare o l => cases o <;> kernel_rfl
  | _ => kernel_rfl
theorem o_faulty : dInU [.str r.op, .tuple [(.str "load"), (.str "clear"), (.str "add"), (.str "sub"), (.str "mul"), (.str "div"), (.str "rest"), (.str "less"), (.str "neg"), (.str "raise")]] = some (.bool r.isFaulty) := by
  cases r with
  | nm o n l => cases o <;> kernel_rfl
  | jmp o m l => cases o <;> kernel_rfl
  | pr o l => cases o <;> kernel_rfl
  | bare o l => cases o <;> kernel_rfl
  | _ => kernel_rfl
end
theorem gsD_cons {x : Nat × Int} {g : List (Nat × Int)} : gsD (x :: g) = gsD g ++ [gD x] := by
  unfold gsD
  rw [List.reverse_cons, List.map_append]
  rfl
theorem atI_last {α : Type} {xs : List α} {x : α} : atI (xs ++ [x]) (-1) = some x := by
  unfold atI ixN
  rw [if_neg (by omega), if_pos (by rw [List.length_append, List.length_singleton]; omega)]
  show (xs ++ [x])[_]? = _
  rw [List.length_append, List.length_singleton, show ((-1 : Int) + ((xs.length + 1 : Nat) : Int)).toNat = xs.length by omega, List.getElem?_append_right (Nat.le_refl _), Nat.sub_self]
  rfl
theorem cutG_init {α : Type} {xs : List α} {x : α} : cutG (xs ++ [x]) none (some (-1)) = xs := by
  show ((xs ++ [x]).drop 0).take ((if (-1 : Int) < 0 then (-1 + ((xs ++ [x]).length : Int)).toNat else min (-1 : Int).toNat (xs ++ [x]).length) - 0) = _
  rw [if_pos (by omega), List.length_append, List.length_singleton, List.drop_zero, show ((-1 : Int) + ((xs.length + 1 : Nat) : Int)).toNat - 0 = xs.length by omega, List.take_left]
theorem eq0_gD {p : Nat × Int} : Eq0 1 (gD p) := .tuple fun d m => by
  rcases List.mem_cons.mp m with rfl | m
  · exact .int
  · rcases List.mem_cons.mp m with rfl | m
    · exact .int
    · cases m
theorem eq0_gs {g : List (Nat × Int)} : Eq0 2 (.tuple (gsD g)) := .tuple fun d m => by
  obtain ⟨p, _, rfl⟩ := List.mem_map.mp m
  exact eq0_gD
theorem eq0_nilT : Eq0 1 (.tuple []) := .tuple fun d m => by cases m
theorem dEq_of {a b : D} {n m : Nat} (ha : Eq0 n a) (hb : Eq0 m b) (hn : n ≤ 64 := by decide) (hm : m ≤ 64 := by decide) : dEqU [a, b] = some (.bool (PyData.eqv a b)) := by
  refine orD_l ?_
  unfold dEq
  dsimp only
  rw [ha.ok hn, hb.ok hm, if_pos (by decide)]
theorem dNe_of {a b : D} {n m : Nat} (ha : Eq0 n a) (hb : Eq0 m b) (hn : n ≤ 64 := by decide) (hm : m ≤ 64 := by decide) : dNeU [a, b] = some (.bool (!PyData.eqv a b)) := by
  refine orD_l ?_
  unfold dNe
  dsimp only
  rw [ha.ok hn, hb.ok hm, if_pos (by decide)]
theorem gs_eqv {g : List (Nat × Int)} : PyData.eqv (.tuple (gsD g)) (.tuple []) = g.isEmpty := by
  cases g with
  | nil => rfl
  | cons x g =>
    rw [gsD_cons]
    cases gsD g <;> rfl
theorem dEq_gs {g : List (Nat × Int)} : dEqU [.tuple (gsD g), .tuple []] = some (.bool g.isEmpty) := by rw [dEq_of eq0_gs eq0_nilT, gs_eqv]
theorem dNe_gs {g : List (Nat × Int)} : dNeU [.tuple (gsD g), .tuple []] = some (.bool (!g.isEmpty)) := by rw [dNe_of eq0_gs eq0_nilT, gs_eqv]
theorem ix_gs {x : Nat × Int} {g : List (Nat × Int)} : dIxU [.tuple (gsD (x :: g)), .int (-1)] = some (gD x) := by rw [dIxU_t, gsD_cons, atI_last]
theorem sl_gs {g : List (Nat × Int)} : dSlU (.tuple (gsD g)) none (some (-1)) = some (.tuple (gsD g.tail)) := by
  cases g with
  | nil => rfl
  | cons x g =>
    show some (PyData.tuple (cutG (gsD (x :: g)) none (some (-1)))) = _
    rw [gsD_cons, cutG_init]
    rfl
section
variable {ρ : En} (s : St) {i j : Nat}
theorem st_0 : dIxU [s.D, .int 0] = some (.int s.d) := rfl
theorem st_1 : dIxU [s.D, .int 1] = some (.tuple (gsD s.g)) := rfl
theorem st_2 : mgT 2 (mgCons (mgN i) (mgCons (mgN j) mgNil)) s.D ρ = some ((ρ.set i (some (.int s.d))).set j (some (.tuple (gsD s.g)))) := rfl
end
theorem getD_wh {m : Nat} : ∀ {w : List (Nat × Nat)}, getD' (.inl (m : Int)) (w.map fun p => (dN p.1, dN p.2)) = (w.lookup m).map dN
  | [] => rfl
  | p :: w => by
    rw [List.map_cons, List.lookup_cons]
    show (if dKey (dN p.1) = some (.inl (m : Int)) then some (dN p.2) else getD' _ _) = _
    by_cases h : m = p.1
    · subst h
      rw [beq_self_eq_true]
      exact if_pos rfl
    · rw [if_neg (fun z => h (by have z : some (Sum.inl (p.1 : Int) : Key) = some (.inl (m : Int)) := z; injection z with z; injection z with z; omega)), show (m == p.1) = false from beq_eq_false_iff_ne.mpr h]
      exact getD_wh
theorem ix_wh {w : List (Nat × Nat)} {m : Nat} : dIxU [whD w, dN m] = (w.lookup m).map dN := by
  refine (orD_r rfl).trans ?_
  exact (gob_ok (by cases w <;> rfl)).trans getD_wh
def Row.mark : Row → Nat
  | .jmp _ m _ => m
  | .tri m _ => m
  | .label m _ => m
  | _ => 0
def plainNext (w : List (Nat × Nat)) (r : Row) (at_ : Nat) (s : St) : Option (List (Nat × St)) :=
  if r.isJump = true then (w.lookup r.mark).map fun p => [(p, s)]
  else if r.isBranch = true then (w.lookup r.mark).map fun p => [(at_ + 1, ⟨s.d - 1, s.g⟩), (p, ⟨s.d - (if r.isIf then 1 else 0), s.g⟩)]
  else if r.isTri = true then some [(at_ + 1, ⟨s.d, (r.mark, s.d) :: s.g⟩)]
  else if r.isEndtry = true then some [(at_ + 1, ⟨s.d, s.g.tail⟩)]
  else if r.isEnd = true then some []
  else some [(at_ + 1, ⟨s.d + r.grows, s.g⟩)]
def allNext (w : List (Nat × Nat)) (r : Row) (at_ : Nat) (s : St) : Option (List (Nat × St)) :=
  (plainNext w r at_ s).bind fun l => match s.g with
    | [] => some l
    | x :: g => if r.isFaulty = true then (w.lookup x.1).map fun p => l ++ [(p, ⟨x.2 + 1, g⟩)] else some l
theorem dAppend_eq {ds : List D} {d : D} (h : ds.length < 1000000) : dAppend (.list ds) [d] = some (.none, .list (ds ++ [d])) := dAppend_l.mpr ⟨h, rfl, rfl⟩
local macro_rules | `(tactic| exists $es,*) => `(tactic| simp only [v_var, v_mv, v_br, v_C, v_aNil, v_aCons, v_op, v_m1, v_m2, v_tr, v_and, v_or, v_not, v_andV, v_orV, v_notV, v_if, v_tup, v_lst, v_seq, v_skip, v_break, v_cont, v_drop, v_ret, v_ite, v_set, v_fz, v_th, v_asg, v_aug, v_call, v_fun, v_mut, v_no, v_pt, v_sl, v_chain, v_itL, v_for, v_lc, v_itU, v_it2, v_dc,
  kTr_b, kSeq_nx, kSeq_rt, kSeq_bk, kSeq_ct, kFun_rt, kFun_nx, kPt_i, kSl_1, kCh_i, kCh2_i, kItL_l, kItU_l, kItU_t, kItU_s, Option.bind_some, Option.bind_none, at_zero, at_succ, at_nil, fill_nil, fill_fz, fill_ow, fill_br, Option.map_some, List.set_cons_zero, List.set_cons_succ, List.set_nil, List.map_cons, List.map_nil, List.cons_append, List.nil_append, List.append_nil, List.replicate_succ, List.replicate_zero, putB_nil, putB_br, putB_fz, putB_ow, outE_nil, outE_fz, outE_io, mgN_e, mgNil_e, mgCons_e, mgT_e, mgL_e, List.length_cons, List.length_nil, if_true, if_false, reduceIte, Bool.false_eq_true, Bool.not_true, Bool.not_false, decide_true, decide_false, dSub_i, dAdd_i, dAddU_i, dLt_i, dLe_i, dGt_i, dGe_i, dNeg_i, $[$es:term],*])
section
variable {ρ : En} {g : MG} {m mk : M} {mt : MT} {ma : MA} {ks : List Ak}
def kItU (p : D × En) : Option (List D × En) := match p.1 with
  | .list ds => some (ds, p.2)
  | .tuple ds => some (ds, p.2)
  | .str x => some (signs x, p.2)
  | _ => none
@[simp] theorem kItU_l {ds : List D} : kItU (.list ds, ρ) = some (ds, ρ) := rfl
@[simp] theorem kItU_t {ds : List D} : kItU (.tuple ds, ρ) = some (ds, ρ) := rfl
@[simp] theorem kItU_s {x : Str} : kItU (.str x, ρ) = some (signs x, ρ) := rfl
theorem v_itU : mItU m ρ = (m ρ).bind kItU := rfl
theorem v_it2 {f : List D → Option (List D)} : mIt2 ks ma f ρ = (ma ρ).bind fun p => (fill ks p.1 p.2).bind fun ds => (f ds).bind fun r => some (r, p.2) := by
  unfold mIt2
  simp only [Option.map_eq_bind]
  try rfl
theorem v_dc {mi : MI} {vs : List Nat} : mDc mi g mt mk m vs ρ = (mi ρ).bind fun p => (mDcL p.1 g mt mk m vs [] p.2).bind fun q => some (.dict q.1, restE p.2 vs q.2) := by
  unfold mDc
  simp only [Option.map_eq_bind]
  try rfl
end
section
variable {τ : Type} {u : τ → D} {ρ : En} {g : MG} {e mk : M} {t : MT} {vs : List Nat}
theorem lcF_eq {F : τ → Option D} {xs : List τ} (hl : xs.length ≤ 1000000) (hs : ∀ x, x ∈ xs → ∃ ρ1, g (u x) (wipeE ρ vs) = some ρ1 ∧ ∃ b ρ2, t ρ1 = some (b, ρ2) ∧ if b = true then ∃ y ρ3, e ρ2 = some (y, ρ3) ∧ F x = some y ∧ wipeE ρ3 vs = wipeE ρ vs else F x = none ∧ wipeE ρ2 vs = wipeE ρ vs) :
    ((mLcL (xs.map u) g t e vs [] ρ).bind fun q => some (PyData.list q.1, restE ρ vs q.2)) = some (.list (xs.filterMap F), ρ) := by
  obtain ⟨ρ', h1, h2⟩ := lcL (acc := []) (ρ := ρ) (xs := xs) (u := u) (F := F) (g := g) (t := t) (e := e) (vs := vs) rfl (fun x m => by
    obtain ⟨ρ1, e1, b, ρ2, e2, q⟩ := hs x m
    refine ⟨ρ1, e1, b, ρ2, e2, ?_⟩
    split at q
    · rename_i hb
      rw [if_pos hb]
      obtain ⟨y, ρ3, q1, q2, q3⟩ := q
      exact ⟨y, ρ3, q1, q2, q3⟩
    · rename_i hb
      rw [if_neg hb]
      exact q) (by rw [List.length_nil]; omega)
  rw [h1]
  show some (PyData.list _, restE ρ vs ρ') = _
  rw [rest_same h2]
  rfl
theorem lcM_eq {F : τ → D} {xs : List τ} (hl : xs.length ≤ 1000000) (hs : ∀ x, x ∈ xs → ∃ ρ1, g (u x) (wipeE ρ vs) = some ρ1 ∧ ∃ ρ3, e ρ1 = some (F x, ρ3) ∧ wipeE ρ3 vs = wipeE ρ vs) :
    ((mLcL (xs.map u) g mYes e vs [] ρ).bind fun q => some (PyData.list q.1, restE ρ vs q.2)) = some (.list (xs.map F), ρ) := by
  rw [lcF_eq (F := fun x => some (F x)) hl fun x m => ?_, List.filterMap_eq_map']
  obtain ⟨ρ1, e1, ρ3, e2, e3⟩ := hs x m
  exact ⟨ρ1, e1, true, ρ1, rfl, by rw [if_pos rfl]; exact ⟨_, ρ3, e2, rfl, e3⟩⟩
end
theorem dAll_f {τ : Type} {f : τ → Bool} {xs : List τ} : dAll [.list (xs.map fun x => PyData.bool (f x))] = some (.bool (xs.all f)) := by
  have h := dAll_b (bs := xs.map f)
  rw [List.map_map, List.all_map] at h
  exact h
def enumF {τ : Type} : Nat → List τ → List (Nat × τ)
  | _, [] => []
  | k, x :: xs => (k, x) :: enumF (k + 1) xs
theorem enumF_get {τ : Type} : ∀ {k i : Nat} {xs : List τ}, (enumF k xs)[i]? = (xs[i]?).map fun x => (k + i, x)
  | _, _, [] => rfl
  | k, 0, x :: xs => rfl
  | k, i + 1, x :: xs => by
    show (enumF (k + 1) xs)[i]? = (xs[i]?).map _
    rw [enumF_get, show k + 1 + i = k + (i + 1) by omega]
theorem enumF_mem {τ : Type} {p : Nat × τ} {xs : List τ} : p ∈ enumF 0 xs ↔ xs[p.1]? = some p.2 := by
  rw [List.mem_iff_getElem?]
  constructor
  · rintro ⟨i, h⟩
    rw [enumF_get] at h
    obtain ⟨x, h1, h2⟩ := Option.map_eq_some_iff.mp h
    rw [← h2]
    show xs[0 + i]? = some x
    rw [Nat.zero_add]
    exact h1
  · intro h
    refine ⟨p.1, ?_⟩
    rw [enumF_get, h, Nat.zero_add]
    rfl
theorem enumD_map {τ : Type} {u : τ → D} {xs : List τ} : enumD (xs.map u) = (enumF 0 xs).map fun p => PyData.tuple [dN p.1, u p.2] := by
  have main : ∀ (xs : List τ) (k : Nat), zipD ((List.range' k xs.length).map fun (i : Nat) => PyData.int (i : Int)) (xs.map u) = (enumF k xs).map fun p => PyData.tuple [dN p.1, u p.2] := fun xs => by
    induction xs with
    | nil => intro k; rfl
    | cons x xs ih =>
      intro k
      show zipD ((k :: List.range' (k + 1) xs.length).map _) (u x :: xs.map u) = _
      show PyData.tuple [PyData.int (k : Int), u x] :: zipD ((List.range' (k + 1) xs.length).map fun (i : Nat) => PyData.int (i : Int)) (xs.map u) = _
      rw [ih (k + 1)]
      rfl
  unfold enumD
  rw [List.length_map, List.range_eq_range']
  exact main xs 0
theorem dEnum_map {τ : Type} {u : τ → D} {xs : List τ} : dEnum [.list (xs.map u)] = some ((enumF 0 xs).map fun p => PyData.tuple [dN p.1, u p.2]) := congrArg some enumD_map
inductive LR (S R : Type) where
  | go (s : S)
  | out (r : R)
abbrev lrP {S R : Type} (P : S → Prop) (Q : R → Prop) : LR S R → Prop
  | .go s => P s
  | .out r => Q r
def runL {S R τ : Type} (step : S → τ → Option (LR S R)) : List τ → S → Option (LR S R)
  | [], s => some (.go s)
  | x :: xs, s => (step s x).bind fun z => match z with
    | .go s' => runL step xs s'
    | .out r => some (.out r)
inductive WR (S R : Type) where
  | go (s : S)
  | stop (s : S)
  | out (r : R)
abbrev wrP {S R : Type} (P P2 : S → Prop) (Q : R → Prop) : WR S R → Prop
  | .go s => P s
  | .stop s => P2 s
  | .out r => Q r
def runW {S R : Type} (step : S → Option (WR S R)) : Nat → S → Option (LR S R)
  | 0, _ => none
  | n + 1, s => (step s).bind fun z => match z with
    | .go s' => runW step n s'
    | .stop s' => some (.go s')
    | .out r => some (.out r)
local macro_rules | `(tactic| exists $es,*) => `(tactic| simp only [v_var, v_mv, v_br, v_C, v_aNil, v_aCons, v_op, v_m1, v_m2, v_tr, v_and, v_or, v_not, v_andV, v_orV, v_notV, v_if, v_tup, v_lst, v_seq, v_skip, v_break, v_cont, v_drop, v_ret, v_ite, v_set, v_fz, v_th, v_asg, v_aug, v_call, v_fun, v_mut, v_no, v_pt, v_sl, v_chain, v_itL, v_for, v_lc, v_itU, v_it2, v_dc,
  kTr_b, kSeq_nx, kSeq_rt, kSeq_bk, kSeq_ct, kFun_rt, kFun_nx, kPt_i, kSl_1, kCh_i, kCh2_i, kItL_l, kItU_l, kItU_t, kItU_s, Option.bind_some, Option.bind_none, at_zero, at_succ, at_nil, fill_nil, fill_fz, fill_ow, fill_br, Option.map_some, List.set_cons_zero, List.set_cons_succ, List.set_nil, List.map_cons, List.map_nil, List.cons_append, List.nil_append, List.append_nil, List.replicate_succ, List.replicate_zero, putB_nil, putB_br, putB_fz, putB_ow, outE_nil, outE_fz, outE_io, mgN_e, mgNil_e, mgCons_e, mgT_e, mgL_e, List.length_cons, List.length_nil, if_true, if_false, reduceIte, Bool.false_eq_true, Bool.not_true, Bool.not_false, decide_true, decide_false, dSub_i, dAdd_i, dAddU_i, dLt_i, dLe_i, dGt_i, dGe_i, dNeg_i, $[$es:term],*])
theorem is_number_i {i a b : Int} : f_is_number [some (.int i), some (.int a), some (.int b)] = some (.bool (decide (a ≤ i) && decide (i ≤ b)), [none, none, none]) := by
  unfold f_is_number m_is_number
  exists dIs_int_i, dIs_bool_i
  by_cases h : a ≤ i
  · exists decide_eq_true h
    rfl
  · exists decide_eq_false h
    rfl
def signsIn (z : Str) (x : Str) : Bool := x.cps.toList.all fun c => decide (c ∈ z.cps.toList)
def nameOk (x : Str) : Bool := decide (1 ≤ x.cps.size ∧ x.cps.size ≤ 4) && signsIn "abcdefghijklmnopqrstuvwxyz" x
def kindOk (x : Str) : Bool := decide (1 ≤ x.cps.size ∧ x.cps.size ≤ 8) && signsIn ("abcdefghijklmnopqrstuvwxyz" ++ "ABCDEFGHIJKLMNOPQRSTUVWXYZ" : Str) x
def valOk (m : Int) : Val → Bool
  | .non => true
  | .bool _ => true
  | .int i => decide (-m ≤ i) && decide (i ≤ m)
  | .str x => kindOk x
def Val.fits : Val → Prop
  | .str x => x.cps.size ≤ 100000
  | _ => True
def Row.ok : Row → Bool
  | .push v l => decide (l ≤ 9999) && valOk 1000000000 v
  | .nm _ n l => decide (l ≤ 9999) && nameOk n
  | .copy n l => decide (l ≤ 9999) && (decide (1 ≤ n) && decide (n ≤ 9))
  | .swap n l => decide (l ≤ 9999) && (decide (2 ≤ n) && decide (n ≤ 9))
  | .jmp _ m l => decide (l ≤ 9999) && decide (m ≤ 99)
  | .tri m l => decide (l ≤ 9999) && decide (m ≤ 99)
  | .label m l => decide (l ≤ 9999) && decide (m ≤ 99)
  | .pr _ l => decide (l ≤ 9999)
  | .bare _ l => decide (l ≤ 9999)
  | .endtry l => decide (l ≤ 9999)
def Row.fits : Row → Prop
  | .push v _ => v.fits
  | .nm _ n _ => n.cps.size ≤ 100000
  | _ => True
def Row.isCounted : Row → Bool
  | .copy _ _ => true
  | .swap _ _ => true
  | _ => false
def Row.isNm : Row → Bool
  | .nm _ _ _ => true
  | _ => false
def Row.isLabel : Row → Bool
  | .label _ _ => true
  | _ => false
def Row.isHop : Row → Bool
  | .jmp _ _ _ => true
  | .tri _ _ => true
  | _ => false
def Row.isPush : Row → Bool
  | .push _ _ => true
  | _ => false
section
variable {r : Row}
theorem o_counted : dKin false [("copy", (.int 1)), ("swap", (.int 2))] [.str r.op] = some (.bool r.isCounted) := by
  cases r with
  | nm o n l => cases o <;> kernel_rfl
  | jmp o m l => cases o <;> kernel_rfl
  | pr o l => cases o <;> kernel_rfl
  | bare o l => cases o <;> kernel_rfl
  | _ => kernel_rfl
theorem o_nm : dInU [.str r.op, .tuple [(.str "load"), (.str "quick"), (.str "store"), (.str "clear")]] = some (.bool r.isNm) := by
  cases r with
  | nm o n l => cases o <;> kernel_rfl
  | jmp o m l => cases o <;> kernel_rfl
  | pr o l => cases o <;> kernel_rfl
  | bare o l => cases o <;> kernel_rfl
  | _ => kernel_rfl
theorem o_label : dEqU [.str r.op, .str "label"] = some (.bool r.isLabel) := by
  cases r with
  | nm o n l => cases o <;> kernel_rfl
  | jmp o m l => cases o <;> kernel_rfl
  | pr o l => cases o <;> kernel_rfl
  | bare o l => cases o <;> kernel_rfl
  | _ => kernel_rfl
theorem o_hop : dInU [.str r.op, .tuple [(.str "jump"), (.str "iftrue"), (.str "iffalse"), (.str "ortrue"), (.str "orfalse"), (.str "try")]] = some (.bool r.isHop) := by
  cases r with
  | nm o n l => cases o <;> kernel_rfl
  | jmp o m l => cases o <;> kernel_rfl
  | pr o l => cases o <;> kernel_rfl
  | bare o l => cases o <;> kernel_rfl
  | _ => kernel_rfl
theorem o_push : dInU [.str r.op, .tuple [(.str "push")]] = some (.bool r.isPush) := by
  cases r with
  | nm o n l => cases o <;> kernel_rfl
  | jmp o m l => cases o <;> kernel_rfl
  | pr o l => cases o <;> kernel_rfl
  | bare o l => cases o <;> kernel_rfl
  | _ => kernel_rfl
end
theorem isTup_row {r : Row} : dIs "tuple" [r.d] = some (.bool true) := by
  rw [Row.d_eq]
  rfl
theorem len_row {r : Row} : dLenU [r.d] = some (.int 3) := by
  rw [Row.d_eq]
  rfl
local macro_rules | `(tactic| exists $es,*) => `(tactic| simp only [v_var, v_mv, v_br, v_C, v_aNil, v_aCons, v_op, v_m1, v_m2, v_tr, v_and, v_or, v_not, v_andV, v_orV, v_notV, v_if, v_tup, v_lst, v_seq, v_skip, v_break, v_cont, v_drop, v_ret, v_ite, v_set, v_fz, v_th, v_asg, v_aug, v_call, v_fun, v_mut, v_no, v_pt, v_sl, v_chain, v_itL, v_for, v_lc, v_itU, v_it2, v_dc,
  kTr_b, kSeq_nx, kSeq_rt, kSeq_bk, kSeq_ct, kFun_rt, kFun_nx, kPt_i, kSl_1, kCh_i, kCh2_i, kItL_l, kItU_l, kItU_t, kItU_s, Option.bind_some, Option.bind_none, at_zero, at_succ, at_nil, fill_nil, fill_fz, fill_ow, fill_br, Option.map_some, List.set_cons_zero, List.set_cons_succ, List.set_nil, List.map_cons, List.map_nil, List.cons_append, List.nil_append, List.append_nil, List.replicate_succ, List.replicate_zero, putB_nil, putB_br, putB_fz, putB_ow, outE_nil, outE_fz, outE_io, mgN_e, mgNil_e, mgCons_e, mgT_e, mgL_e, List.length_cons, List.length_nil, if_true, if_false, reduceIte, Bool.false_eq_true, Bool.not_true, Bool.not_false, decide_true, decide_false, dSub_i, dAdd_i, dAddU_i, dLt_i, dLe_i, dGt_i, dGe_i, dNeg_i, row_0, row_1, row_2, row_3, st_0, st_1, st_2, o_jump, o_branch, o_if, o_try, o_endtry, o_end, o_ncopy, o_faulty, o_counted, o_nm, o_label, o_hop, o_push, takes_ok, grows_ok, ix_gs, sl_gs, dEq_gs, dNe_gs, ix_wh, isTy_l, isTup_row, len_row, dEnum_map, Bool.true_and, Bool.false_and, Bool.and_true, Bool.and_false, $[$es:term],*])
theorem in_ns {m : Nat} {ms : List Nat} : inD false [dN m, .list (ms.map dN)] = some (.bool (decide (m ∈ ms))) := by
  have h : flVs (ms.map dN) = some (ms.map fun (n : Nat) => V.int (n : Int)) := by
    induction ms with
    | nil => rfl
    | cons n ms ih =>
      show (flVs (ms.map dN)).map _ = _
      rw [ih]
      rfl
  show (flVs (ms.map dN)).map (fun vs => PyData.bool (inV (.int m) vs)) = _
  rw [h]
  show some (PyData.bool (inV (.int m) (ms.map fun (n : Nat) => V.int (n : Int)))) = _
  congr 2
  unfold inV
  rw [List.any_map, Bool.eq_iff_iff, List.any_eq_true, decide_eq_true_iff]
  constructor
  · rintro ⟨n, h1, h2⟩
    have h2 : ((n : Int) == (m : Int)) = true := h2
    have e : n = m := by have := beq_iff_eq.mp h2; omega
    rw [← e]
    exact h1
  · intro h1
    exact ⟨m, h1, show ((m : Int) == (m : Int)) = true from beq_self_eq_true _⟩
theorem nin_nsU {m : Nat} {ms : List Nat} : dNinU [dN m, .list (ms.map dN)] = some (.bool (!decide (m ∈ ms))) := by
  refine orD_l ?_
  have h := in_ns (m := m) (ms := ms)
  show (flVs (ms.map dN)).map (fun vs => PyData.bool (!inV (.int m) vs)) = _
  obtain ⟨vs, h1, h2⟩ := Option.map_eq_some_iff.mp (show (flVs (ms.map dN)).map (fun vs => PyData.bool (inV (.int m) vs)) = _ from h)
  rw [h1]
  injection h2 with h2
  show some (PyData.bool (!inV (.int m) vs)) = _
  rw [h2]
def labelMarks (c : Code) : List Nat := c.filterMap fun r => if (r.ok && r.isLabel) = true then some r.mark else none
def bpStep (ms : List Nat) (seen : List Nat) (p : Nat × Row) : Option (LR (List Nat) Nat) :=
  if (!p.2.ok || (p.2.isHop && !decide (p.2.mark ∈ ms))) = true then some (.out p.1)
  else if p.2.isLabel = true then (if p.2.mark ∈ seen then some (.out p.1) else if seen.length < 1000000 then some (.go (seen ++ [p.2.mark])) else none)
  else some (.go seen)
def badPlace (c : Code) : Option (Option Nat) := (runL (bpStep (labelMarks c)) (enumF 0 c) []).map fun z => match z with
  | .go _ => none
  | .out n => some n
def Code.fits (c : Code) : Prop := c.length ≤ 1000000 ∧ ∀ r, r ∈ c → r.fits
section
variable {α : Type} {f : α → D}
def putA (m : Nat) (a : α) (w : List (Nat × α)) : List (Nat × α) := if (w.lookup m).isSome = true then w.map (fun p => if p.1 = m then (p.1, a) else p) else w ++ [(m, a)]
theorem lookup_map_put {m k : Nat} {a : α} : ∀ {w : List (Nat × α)}, (w.map (fun p => if p.1 = m then (p.1, a) else p)).lookup k = if k = m then (w.lookup k).map fun _ => a else w.lookup k
  | [] => by
    show none = _
    split <;> rfl
  | p :: w => by
    have ih := lookup_map_put (m := m) (k := k) (a := a) (w := w)
    rw [List.map_cons, List.lookup_cons, List.lookup_cons]
    by_cases h : p.1 = m
    · rw [if_pos h]
      by_cases h2 : k = m
      · rw [if_pos h2, show (k == p.1) = true from beq_iff_eq.mpr (h2.trans h.symm)]
        rfl
      · rw [if_neg h2, show (k == p.1) = false from beq_eq_false_iff_ne.mpr fun z => h2 (z.trans h), ih, if_neg h2]
    · rw [if_neg h, ih]
      by_cases h2 : k = m
      · rw [if_pos h2, if_pos h2, show (k == p.1) = false from beq_eq_false_iff_ne.mpr fun z => h (z.symm.trans h2)]
      · rw [if_neg h2, if_neg h2]
theorem lookup_append {k : Nat} {m : Nat} {a : α} : ∀ {w : List (Nat × α)}, (w ++ [(m, a)]).lookup k = match w.lookup k with
    | some b => some b
    | none => if k = m then some a else none
  | [] => by
    show (match k == m with | true => some a | false => none) = if k = m then some a else none
    by_cases h : k = m
    · rw [if_pos h, beq_iff_eq.mpr h]
    · rw [if_neg h, beq_eq_false_iff_ne.mpr h]
  | p :: w => by
    rw [List.cons_append, List.lookup_cons, List.lookup_cons]
    cases k == p.1 with
    | true => rfl
    | false => exact lookup_append
theorem lookup_putA {m k : Nat} {a : α} {w : List (Nat × α)} : (putA m a w).lookup k = if k = m then some a else w.lookup k := by
  unfold putA
  split
  · rename_i h
    rw [lookup_map_put]
    by_cases h2 : k = m
    · rw [if_pos h2, if_pos h2, h2]
      obtain ⟨b, hb⟩ := Option.isSome_iff_exists.mp h
      rw [hb]
      rfl
    · rw [if_neg h2, if_neg h2]
  · rename_i h
    rw [lookup_append]
    by_cases h2 : k = m
    · rw [if_pos h2, if_pos h2, h2]
      cases e : w.lookup m with
      | none => rfl
      | some b =>
        rw [e] at h
        exact (h rfl).elim
    · rw [if_neg h2, if_neg h2]
      cases w.lookup k <;> rfl
end
def putO {α : Type} (w : List (Nat × α)) : Option (Nat × α) → List (Nat × α)
  | some p => putA p.1 p.2 w
  | none => w
def labF (p : Nat × Row) : Option (Nat × Nat) := if p.2.isLabel = true then some (p.2.mark, p.1) else none
def whereL (c : Code) : List (Nat × Nat) := (enumF 0 c).foldl (fun w p => putO w (labF p)) []
section
variable {ρ : En} {i : Nat} {mi mv : M}
theorem v_putU : mPutU i mi mv ρ = (mv ρ).bind fun p => (at? p.2 i).bind fun _ => (mi p.2).bind fun q => (at? q.2 i).bind fun c => (putU c q.1 p.1).bind fun z => some (.nx, q.2.set i (some z)) := by
  unfold mPutU
  simp only [v_br, Option.bind_assoc, Option.bind_some, Option.map_eq_bind]
  congr 1
  funext p
  congr 1
  funext x
  congr 1
  funext q
  exact slotM
theorem v_disp {r : MPs} : mDisp r ρ = (r ρ).bind fun z => some (.dict (mergeD [] z.1), z.2) := Option.map_eq_bind ..
theorem v_pNil : mpNil ρ = some ([], ρ) := rfl
theorem v_pCons {mk : M} {r : MPs} : mpCons mk mv r ρ = (mk ρ).bind fun p => (dKey p.1).bind fun k => (mv p.2).bind fun q => (r q.2).bind fun z => some ((k, q.1) :: z.1, z.2) := by
  unfold mpCons
  simp only [Option.map_eq_bind]
  try rfl
end
local macro_rules | `(tactic| exists $es,*) => `(tactic| simp only [v_var, v_mv, v_br, v_C, v_aNil, v_aCons, v_op, v_m1, v_m2, v_tr, v_and, v_or, v_not, v_andV, v_orV, v_notV, v_if, v_tup, v_lst, v_seq, v_skip, v_break, v_cont, v_drop, v_ret, v_ite, v_set, v_fz, v_th, v_asg, v_aug, v_call, v_fun, v_mut, v_no, v_pt, v_sl, v_chain, v_itL, v_for, v_lc, v_itU, v_it2, v_dc, v_putU, v_disp, v_pCons, v_pNil,
  kTr_b, kSeq_nx, kSeq_rt, kSeq_bk, kSeq_ct, kFun_rt, kFun_nx, kPt_i, kSl_1, kCh_i, kCh2_i, kItL_l, kItU_l, kItU_t, kItU_s, Option.bind_some, Option.bind_none, at_zero, at_succ, at_nil, fill_nil, fill_fz, fill_ow, fill_br, Option.map_some, List.set_cons_zero, List.set_cons_succ, List.set_nil, List.map_cons, List.map_nil, List.cons_append, List.nil_append, List.append_nil, List.replicate_succ, List.replicate_zero, putB_nil, putB_br, putB_fz, putB_ow, outE_nil, outE_fz, outE_io, mgN_e, mgNil_e, mgCons_e, mgT_e, mgL_e, List.length_cons, List.length_nil, if_true, if_false, reduceIte, Bool.false_eq_true, Bool.not_true, Bool.not_false, decide_true, decide_false, dSub_i, dAdd_i, dAddU_i, dLt_i, dLe_i, dGt_i, dGe_i, dNeg_i, row_0, row_1, row_2, row_3, st_0, st_1, st_2, o_jump, o_branch, o_if, o_try, o_endtry, o_end, o_ncopy, o_faulty, o_counted, o_nm, o_label, o_hop, o_push, takes_ok, grows_ok, ix_gs, sl_gs, dEq_gs, dNe_gs, ix_wh, isTy_l, isTup_row, len_row, dEnum_map, Bool.true_and, Bool.false_and, Bool.and_true, Bool.and_false, $[$es:term],*])
def beneath (r : Row) (s : St) : Bool := match s.g with
  | [] => false
  | x :: _ => !r.isCopy && (decide (0 < r.takes) && decide (s.d - r.takes < x.2))
def lacks (n : Nat) (w : List (Nat × Nat)) (r : Row) (at_ : Nat) (s : St) : Option (List Str) :=
  (allNext w r at_ s).map fun l => (if s.d < r.takes then [("takes" : Str)] else []) ++ (if (r.isEndtry && s.g.isEmpty) = true then [("guard" : Str)] else []) ++ (if beneath r s = true then [("beneath" : Str)] else []) ++ (if l.any (fun p => decide (p.1 = n)) = true then [("end" : Str)] else [])
theorem strOk_ofString {s : String} : PyData.strOk (Str.ofString s) = true := by
  rw [Str.ofString_eq_toList]
  show Array.all (List.map Char.toNat s.toList).toArray _ = true
  rw [List.all_toArray]
  rw [List.all_eq_true]
  intro x hx
  obtain ⟨c, _, rfl⟩ := List.mem_map.mp hx
  have := c.valid
  have h2 : c.toNat = c.val.toNat := rfl
  rcases this with h | h
  · have h3 : c.val.toNat < 0xd800 := h
    exact decide_eq_true (by omega)
  · have h3 : c.val.toNat < 0x110000 := h.2
    exact decide_eq_true (by omega)
theorem Eq0.str {x : Str} {n : Nat} (h : PyData.strOk x = true) : Eq0 n (.str x) := ⟨by rw [PyData.canLay0]; exact h, rfl, by simp [PyData.depth]⟩
section
variable {τ : Type} {u : τ → D}
theorem ix_list {xs : List τ} {i : Nat} {x : τ} (h : xs[i]? = some x) : dIxU [.list (xs.map u), dN i] = some (u x) := by
  rw [dIxU_l]
  exact atI_nat (by rw [List.getElem?_map, h]; rfl)
theorem put_list {xs : List τ} {i : Nat} {y : τ} (h : i < xs.length) : putU (.list (xs.map u)) (dN i) (u y) = some (.list ((xs.set i y).map u)) := by
  show (ixN (xs.map u).length (i : Int)).map _ = _
  rw [ixN_int (by omega) (by rw [List.length_map]; omega)]
  show some (PyData.list ((xs.map u).set (i : Int).toNat (u y))) = _
  rw [Int.toNat_natCast, List.map_set]
theorem cat_list {xs ys : List τ} (h : xs.length + ys.length ≤ 1000000) : dAddU [.list (xs.map u), .list (ys.map u)] = some (.list ((xs ++ ys).map u)) := by
  refine (orD_r rfl).trans (orD_l ?_)
  refine dCat_l.mpr ⟨by rw [List.length_map, List.length_map]; exact h, by rw [List.map_append]⟩
theorem eqvAll_map {σ : Type} [DecidableEq σ] {f : σ → D} (hf : ∀ a b, PyData.eqv (f a) (f b) = decide (a = b)) : ∀ {xs ys : List σ}, PyData.eqvAll (xs.map f) (ys.map f) = decide (xs = ys)
  | [], [] => by rw [List.map_nil, PyData.eqvAll]; rfl
  | [], y :: ys => by rw [List.map_nil, List.map_cons, PyData.eqvAll]; rfl
  | x :: xs, [] => by rw [List.map_nil, List.map_cons, PyData.eqvAll]; rfl
  | x :: xs, y :: ys => by
    rw [List.map_cons, List.map_cons, PyData.eqvAll, hf, eqvAll_map hf, ← Bool.decide_and]
    exact decide_eq_decide.mpr (by rw [List.cons.injEq])
end
theorem eqv_N {a b : Nat} : PyData.eqv (dN a) (dN b) = decide (a = b) := by
  rw [PyData.eqv]
  by_cases h : a = b
  · rw [h, decide_eq_true rfl]
    exact beq_self_eq_true _
  · rw [decide_eq_false h]
    exact beq_eq_false_iff_ne.mpr fun z => h (by omega)
abbrev wkD (w : List Nat) : D := .tuple (w.map dN)
structure Ex where
  found : List (Option St)
  walks : List (Nat × List Nat)
  left : List Nat
inductive Paper where
  | word (w : Str) (walk : List Nat)
  | unlike (a b : List Nat)
def Paper.D : Paper → D
  | .word w a => .tuple [.str w, wkD a]
  | .unlike a b => .tuple [.str "unlike", wkD a, wkD b]
def exIn (at_ : Nat) (e : Ex) (p : Nat × St) : Option (LR Ex Paper) := match e.found[p.1]? with
  | none => none
  | some none => (e.walks.lookup at_).bind fun wk => if wk.length < 1000000 ∧ e.walks.length < 1000000 ∧ e.left.length < 1000000 then some (.go ⟨e.found.set p.1 (some p.2), putA p.1 (wk ++ [p.1]) e.walks, e.left ++ [p.1]⟩) else none
  | some (some s) => if s = p.2 then some (.go e) else (e.walks.lookup p.1).bind fun a => (e.walks.lookup at_).bind fun b => if b.length < 1000000 then some (.out (.unlike a (b ++ [p.1]))) else none
def exOut (c : Code) (e : Ex) : Option (WR Ex Paper) := match e.left with
  | [] => some (.stop e)
  | at_ :: rest => if rest.length < 16384 then (e.found[at_]?).bind fun o => o.bind fun s => (c[at_]?).bind fun r => if s.g.length < 1000000 then
      (lacks c.length (whereL c) r at_ s).bind fun ws => (match ws with
        | w :: _ => (e.walks.lookup at_).map fun wk => .out (.word w wk)
        | [] => (allNext (whereL c) r at_ s).bind fun l => (runL (exIn at_) l ⟨e.found, e.walks, rest⟩).map fun z => match z with
          | .go e' => .go e'
          | .out p => .out p) else none else none
def ex0 (c : Code) : Ex := ⟨(c.map fun _ => none).set 0 (some ⟨0, []⟩), [(0, [0])], [0]⟩
def explored (c : Code) : Option (List (Option St) ⊕ Paper) := (runW (exOut c) (c.length + 1) (ex0 c)).map fun z => match z with
  | .go e => .inl e.found
  | .out p => .inr p
theorem lookup_foldl {α τ : Type} {F : τ → Option (Nat × α)} : ∀ {xs : List τ} {w : List (Nat × α)} {m : Nat} {a : α}, (xs.foldl (fun w x => putO w (F x)) w).lookup m = some a → w.lookup m = some a ∨ ∃ x, x ∈ xs ∧ F x = some (m, a)
  | [], w, m, a, h => .inl h
  | x :: xs, w, m, a, h => by
    rw [List.foldl_cons] at h
    rcases lookup_foldl h with h | ⟨y, h1, h2⟩
    · cases e : F x with
      | none =>
        rw [e] at h
        exact .inl h
      | some p =>
        rw [e] at h
        have h : (putA p.1 p.2 w).lookup m = some a := h
        rw [lookup_putA] at h
        by_cases hm : m = p.1
        · rw [if_pos hm] at h
          injection h with h
          exact .inr ⟨x, List.mem_cons_self, by rw [e, hm, ← h]⟩
        · rw [if_neg hm] at h
          exact .inl h
    · exact .inr ⟨y, List.mem_cons_of_mem _ h1, h2⟩
theorem foldl_has {α τ : Type} {F : τ → Option (Nat × α)} : ∀ {xs : List τ} {w : List (Nat × α)} {m : Nat}, (w.lookup m).isSome = true ∨ (∃ x a, x ∈ xs ∧ F x = some (m, a)) → ((xs.foldl (fun w x => putO w (F x)) w).lookup m).isSome = true
  | [], w, m, h => by
    rcases h with h | ⟨x, a, h, _⟩
    · exact h
    · cases h
  | x :: xs, w, m, h => by
    rw [List.foldl_cons]
    have put : ∀ p : Nat × α, (w.lookup m).isSome = true ∨ m = p.1 → ((putA p.1 p.2 w).lookup m).isSome = true := fun p h => by
      rw [lookup_putA]
      split
      · rfl
      · rename_i hm
        exact h.resolve_right hm
    refine foldl_has ?_
    cases e : F x with
    | none =>
      rcases h with h | ⟨y, a, h1, h2⟩
      · exact .inl h
      · rcases List.mem_cons.mp h1 with rfl | h1
        · rw [e] at h2
          cases h2
        · exact .inr ⟨y, a, h1, h2⟩
    | some p =>
      rcases h with h | ⟨y, a, h1, h2⟩
      · exact .inl (put p (.inl h))
      · rcases List.mem_cons.mp h1 with rfl | h1
        · rw [e] at h2
          injection h2 with h2
          exact .inl (put p (.inr (by rw [h2])))
        · exact .inr ⟨y, a, h1, h2⟩
theorem where_some {c : Code} {m p : Nat} (h : (whereL c).lookup m = some p) : ∃ l, c[p]? = some (.label m l) := by
  rcases lookup_foldl h with h | ⟨x, h1, h2⟩
  · cases h
  · have h1 := enumF_mem.mp h1
    unfold labF at h2
    split at h2
    · rename_i hb
      injection h2 with h2
      obtain ⟨xi, xr⟩ := x
      cases xr with
      | label m' l =>
        have h2 : (m', xi) = (m, p) := h2
        cases h2
        exact ⟨l, h1⟩
      | _ => cases hb
    · cases h2
theorem where_has {c : Code} {m l i : Nat} (h : c[i]? = some (.label m l)) : ((whereL c).lookup m).isSome = true :=
  foldl_has (.inr ⟨(i, .label m l), i, enumF_mem.mpr h, rfl⟩)
theorem where_lt {c : Code} {m p : Nat} (h : (whereL c).lookup m = some p) : p < c.length := by
  obtain ⟨l, h⟩ := where_some h
  exact (List.getElem?_eq_some_iff.mp h).1
structure Good (c : Code) : Prop where
  pos : 1 ≤ c.length
  few : c.length ≤ 1000
  hop : ∀ r, r ∈ c → r.isHop = true → ((whereL c).lookup r.mark).isSome = true
theorem Good.at {c : Code} (g : Good c) {r : Row} {i : Nat} (h : c[i]? = some r) (hr : r.isHop = true) : ∃ p, (whereL c).lookup r.mark = some p ∧ p < c.length := by
  obtain ⟨p, hp⟩ := Option.isSome_iff_exists.mp (g.hop r (List.mem_of_getElem? h) hr)
  exact ⟨p, hp, where_lt hp⟩
def GsOk (c : Code) (g : List (Nat × Int)) : Prop := ∀ x, x ∈ g → ((whereL c).lookup x.1).isSome = true
theorem plainNext_some {c : Code} {r : Row} {i : Nat} {s : St} (g : Good c) (h : c[i]? = some r) : ∃ l, plainNext (whereL c) r i s = some l ∧ ∀ q, q ∈ l → q.1 ≤ c.length ∧ q.2.g.length ≤ s.g.length + 1 ∧ (GsOk c s.g → GsOk c q.2.g) := by
  have hi := (List.getElem?_eq_some_iff.mp h).1
  unfold plainNext
  split
  · rename_i hb
    obtain ⟨p, h1, h2⟩ := g.at h (by cases r <;> first | rfl | cases hb)
    rw [h1]
    refine ⟨_, rfl, fun q hq => ?_⟩
    rw [List.mem_singleton.mp hq]
    exact ⟨Nat.le_of_lt h2, Nat.le_succ _, id⟩
  · split
    · rename_i hb
      obtain ⟨p, h1, h2⟩ := g.at h (by cases r <;> first | rfl | cases hb)
      rw [h1]
      refine ⟨_, rfl, fun q hq => ?_⟩
      rcases List.mem_cons.mp hq with rfl | hq
      · exact ⟨hi, Nat.le_succ _, id⟩
      · rw [List.mem_singleton.mp hq]
        exact ⟨Nat.le_of_lt h2, Nat.le_succ _, id⟩
    · split
      · rename_i hb
        refine ⟨_, rfl, fun q hq => ?_⟩
        rw [List.mem_singleton.mp hq]
        refine ⟨hi, Nat.le_refl _, fun hg x hx => ?_⟩
        rcases List.mem_cons.mp hx with rfl | hx
        · obtain ⟨p, h1, h2⟩ := g.at h (by cases r <;> first | rfl | cases hb)
          rw [h1]
          rfl
        · exact hg x hx
      · split
        · refine ⟨_, rfl, fun q hq => ?_⟩
          rw [List.mem_singleton.mp hq]
          refine ⟨hi, ?_, fun hg x hx => hg x (List.mem_of_mem_tail hx)⟩
          show s.g.tail.length ≤ _
          rw [List.length_tail]
          omega
        · split
          · exact ⟨_, rfl, fun q hq => by cases hq⟩
          · refine ⟨_, rfl, fun q hq => ?_⟩
            rw [List.mem_singleton.mp hq]
            exact ⟨hi, Nat.le_succ _, id⟩
theorem allNext_some {c : Code} {r : Row} {i : Nat} {s : St} (g : Good c) (h : c[i]? = some r) (hg : GsOk c s.g) : ∃ l, allNext (whereL c) r i s = some l ∧ ∀ q, q ∈ l → q.1 ≤ c.length ∧ q.2.g.length ≤ s.g.length + 1 ∧ GsOk c q.2.g := by
  obtain ⟨l, h1, h2⟩ := plainNext_some (s := s) g h
  have h3 : ∀ q, q ∈ l → q.1 ≤ c.length ∧ q.2.g.length ≤ s.g.length + 1 ∧ GsOk c q.2.g := fun q hq => ⟨(h2 q hq).1, (h2 q hq).2.1, (h2 q hq).2.2 hg⟩
  unfold allNext
  rw [h1]
  obtain ⟨d, gs⟩ := s
  cases gs with
  | nil => exact ⟨l, rfl, h3⟩
  | cons x gs =>
    show ∃ l', (if r.isFaulty = true then ((whereL c).lookup x.1).map fun p => l ++ [(p, ⟨x.2 + 1, gs⟩)] else some l) = some l' ∧ _
    split
    · obtain ⟨p, hp⟩ := Option.isSome_iff_exists.mp (hg x List.mem_cons_self)
      rw [hp]
      refine ⟨_, rfl, fun q hq => ?_⟩
      rcases List.mem_append.mp hq with hq | hq
      · exact h3 q hq
      · rw [List.mem_singleton.mp hq]
        refine ⟨Nat.le_of_lt (where_lt hp), ?_, fun y hy => hg y (List.mem_cons_of_mem _ hy)⟩
        show gs.length ≤ gs.length + 1 + 1
        omega
    · exact ⟨l, rfl, h3⟩
inductive Trail (c : Code) : List Nat → St → Prop
  | base : Trail c [0] ⟨0, []⟩
  | step {wk : List Nat} {s s' : St} {i p : Nat} {r : Row} {l : List (Nat × St)} : Trail c wk s → wk.getLast? = some i → c[i]? = some r → lacks c.length (whereL c) r i s = some [] → allNext (whereL c) r i s = some l → (p, s') ∈ l → Trail c (wk ++ [p]) s'
def Reach (c : Code) (i : Nat) (s : St) : Prop := ∃ wk, Trail c wk s ∧ wk.getLast? = some i
theorem lacks_end {n : Nat} {w : List (Nat × Nat)} {r : Row} {i : Nat} {s : St} {l : List (Nat × St)} (h : allNext w r i s = some l) (hl : lacks n w r i s = some []) : ∀ q, q ∈ l → q.1 ≠ n := by
  unfold lacks at hl
  rw [h] at hl
  have hl : some (_ ++ (if l.any (fun p => decide (p.1 = n)) = true then [("end" : Str)] else [])) = some [] := hl
  injection hl with hl
  have hl := (List.append_eq_nil_iff.mp hl).2
  split at hl
  · cases hl
  · rename_i hb
    intro q hq e
    exact hb (List.any_eq_true.mpr ⟨q, hq, decide_eq_true e⟩)
theorem Trail.gs {c : Code} (g : Good c) {wk : List Nat} {s : St} (h : Trail c wk s) : GsOk c s.g ∧ s.g.length ≤ wk.length := by
  induction h with
  | base => exact ⟨fun x hx => (by cases hx), Nat.zero_le _⟩
  | @step wk s s' i p r l h1 h2 h3 h4 h5 h6 ih =>
    obtain ⟨l, e1, e2⟩ := allNext_some g h3 ih.1
    rw [h5] at e1
    cases e1
    have := e2 _ h6
    refine ⟨this.2.2, ?_⟩
    have h7 : s'.g.length ≤ s.g.length + 1 := this.2.1
    have h8 := ih.2
    rw [List.length_append, List.length_singleton]
    omega
structure Least (c : Code) (t : List (Option St)) : Prop where
  len : t.length = c.length
  iff : ∀ i s, t[i]? = some (some s) ↔ Reach c i s
  fits : ∀ i s, Reach c i s → ∃ r l, c[i]? = some r ∧ lacks c.length (whereL c) r i s = some [] ∧ allNext (whereL c) r i s = some l
def cnt (t : List (Option St)) : Nat := t.countP Option.isSome
structure ExInv (c : Code) (e : Ex) : Prop where
  len : e.found.length = c.length
  beg : e.found[0]? = some (some ⟨0, []⟩)
  walk : ∀ i s, e.found[i]? = some (some s) → ∃ wk, e.walks.lookup i = some wk ∧ Trail c wk s ∧ wk.getLast? = some i ∧ wk.length ≤ cnt e.found
  wlen : e.walks.length ≤ cnt e.found
  left : ∀ i, i ∈ e.left → ∃ s, e.found[i]? = some (some s)
  llen : e.left.length ≤ cnt e.found
structure Fits (c : Code) (t : Nat → Option St) : Prop where
  beg : t 0 = some ⟨0, []⟩
  go : ∀ i s, t i = some s → ∃ r l, c[i]? = some r ∧ lacks c.length (whereL c) r i s = some [] ∧ allNext (whereL c) r i s = some l ∧ ∀ q, q ∈ l → t q.1 = some q.2
theorem Fits.trail {c : Code} {t : Nat → Option St} (f : Fits c t) {wk : List Nat} {s : St} (h : Trail c wk s) : ∀ i, wk.getLast? = some i → t i = some s := by
  induction h with
  | base =>
    intro i hi
    cases hi
    exact f.beg
  | @step wk s s' i p r l h1 h2 h3 h4 h5 h6 ih =>
    intro j hj
    rw [List.getLast?_concat] at hj
    cases hj
    obtain ⟨r', l', b1, b2, b3, b4⟩ := f.go i s (ih i h2)
    rw [h3] at b1
    cases b1
    rw [h5] at b3
    cases b3
    exact b4 _ h6
def BIG : Int := 1000000000000000000
def kinds : List Str := ["Oops", "Zero", "Type", "Unset", "Big", "Mine", "Else", "aB", "k", "kk", "kkk", "kkkk", "kkkkk", "kkkkkk", "kkkkkkk", "kkkkkkkk"]
def Val.good : Val → Prop
  | .int i => -BIG ≤ i ∧ i ≤ BIG
  | .str x => x ∈ kinds
  | _ => True
structure CodeOk (c : Code) : Prop where
  pos : 1 ≤ c.length
  few : c.length ≤ 150
  rows : ∀ r, r ∈ c → r.ok = true ∧ r.fits
  vals : ∀ v l, Row.push v l ∈ c → v.good
  hop : ∀ r, r ∈ c → r.isHop = true → ∃ l, Row.label r.mark l ∈ c
  lab : ((c.filter Row.isLabel).map Row.mark).Nodup
theorem CodeOk.good {c : Code} (h : CodeOk c) : Good c := ⟨h.pos, by have := h.few; omega, fun r hr hh => by
  obtain ⟨l, hl⟩ := h.hop r hr hh
  obtain ⟨i, hi⟩ := List.mem_iff_getElem?.mp hl
  exact where_has hi⟩
theorem CodeOk.fits {c : Code} (h : CodeOk c) : c.fits := ⟨by have := h.few; omega, fun r hr => (h.rows r hr).2⟩
theorem bp_go {ms : List Nat} : ∀ {xs : List Row} {k : Nat} {seen : List Nat}, (∀ r, r ∈ xs → r.ok = true) → (∀ r, r ∈ xs → r.isHop = true → r.mark ∈ ms) → (seen ++ (xs.filter Row.isLabel).map Row.mark).Nodup → seen.length + xs.length ≤ 1000 → ∃ s, runL (bpStep ms) (enumF k xs) seen = some (.go s)
  | [], k, seen, _, _, _, _ => ⟨seen, rfl⟩
  | r :: xs, k, seen, h1, h2, h3, h4 => by
    rw [List.length_cons] at h4
    show ∃ s, (bpStep ms seen (k, r)).bind _ = _
    have e1 : (!r.ok || (r.isHop && !decide (r.mark ∈ ms))) = false := by
      rw [h1 r List.mem_cons_self]
      cases hh : r.isHop with
      | false => rfl
      | true => rw [decide_eq_true (h2 r List.mem_cons_self hh)]; rfl
    unfold bpStep
    dsimp only
    rw [e1, if_neg Bool.false_ne_true]
    cases hl : r.isLabel with
    | false =>
      rw [if_neg Bool.false_ne_true]
      refine bp_go (fun r hr => h1 r (List.mem_cons_of_mem _ hr)) (fun r hr => h2 r (List.mem_cons_of_mem _ hr)) ?_ (by omega)
      rw [List.filter_cons_of_neg (by rw [hl]; exact Bool.false_ne_true)] at h3
      exact h3
    | true =>
      rw [List.filter_cons_of_pos hl, List.map_cons] at h3
      have hn : r.mark ∉ seen := fun z => (List.nodup_append.mp h3).2.2 _ z _ List.mem_cons_self rfl
      rw [if_pos rfl, if_neg hn, if_pos (by omega)]
      refine bp_go (fun r hr => h1 r (List.mem_cons_of_mem _ hr)) (fun r hr => h2 r (List.mem_cons_of_mem _ hr)) ?_ (by rw [List.length_append, List.length_singleton]; omega)
      rw [List.append_assoc]
      exact h3
theorem CodeOk.place {c : Code} (h : CodeOk c) : badPlace c = some none := by
  unfold badPlace
  obtain ⟨s, hs⟩ := bp_go (ms := labelMarks c) (xs := c) (k := 0) (seen := []) (fun r hr => (h.rows r hr).1) (fun r hr hh => by
    obtain ⟨l, hl⟩ := h.hop r hr hh
    unfold labelMarks
    refine List.mem_filterMap.mpr ⟨_, hl, ?_⟩
    rw [(h.rows _ hl).1]
    rfl) (by rw [List.nil_append]; exact h.lab) (by have := h.few; rw [List.length_nil]; omega)
  rw [hs]
  rfl
def reckV : POp → Int → Int → Int
  | .add, i, j => i + j
  | .sub, i, j => i - j
  | .mul, i, j => i * j
  | .div, i, j => i.fdiv j
  | _, i, j => i.fmod j
def bigV (x : Int) : Val ⊕ Str := if -BIG ≤ x ∧ x ≤ BIG then .inl (.int x) else .inr "Big"
def numV (o : POp) (i j : Int) : Val ⊕ Str := if o = .less then .inl (.bool (decide (i < j))) else if (o = .div ∨ o = .rest) ∧ j = 0 then .inr "Zero" else bigV (reckV o i j)
def pairedV (o : POp) (a b : Val) : Val ⊕ Str := if o = .same then .inl (.bool (decide (a = b))) else match a, b with
  | .int i, .int j => numV o i j
  | _, _ => .inr "Type"
def Val.tr : Val → Bool
  | .non => false
  | .bool b => b
  | .int i => !decide (i = 0)
  | .str _ => true
def singleV (o : BOp) (v : Val) : Val ⊕ Str := if o = .not then .inl (.bool (!v.tr)) else match v with
  | .int i => .inl (.int (0 - i))
  | _ => .inr "Type"
section
variable {ρ : En} {i n : Nat} {m mi mb : M} {ma : MA}
theorem v_callM {nc np : Nat} {mf : En → Option (D × En)} : mCallM nc np mf ma ρ = (ma ρ).bind fun p => (mf ((none :: p.1.map some) ++ p.2.drop nc)).bind fun z => some (z.1, p.2.take nc ++ z.2.drop np) := rfl
def kMet (n c : Nat) (r : Ak) (p : Fl × En) : Option (D × En) := match p.1 with
  | .rt d => some (d, outM n c p.2)
  | .nx => (match r with
    | .fz => some (.none, outM n c p.2)
    | _ => none)
  | _ => none
theorem kMet_rt {n c : Nat} {r : Ak} {d : D} : kMet n c r (.rt d, ρ) = some (d, outM n c ρ) := rfl
theorem kMet_nx {n c : Nat} : kMet n c .fz (.nx, ρ) = some (.none, outM n c ρ) := rfl
theorem v_met {n c : Nat} {r : Ak} {b : MS} : mMet n c r b ρ = (b (entM n c ρ)).bind (kMet n c r) := rfl
theorem v_entM {n c : Nat} : entM n c ρ = ρ.take n ++ (List.replicate c none ++ ρ.drop n) := rfl
theorem v_outM {n c : Nat} : outM n c ρ = List.replicate n none ++ ρ.drop (n + c) := rfl
def kIx (i : Nat) (d : D) (q : D × En) (c : D) : Option En := match q.1, c with
  | .int j, .list ds => (ixN ds.length j).bind fun n => some (q.2.set i (some (.list (ds.set n d))))
  | _, _ => none
theorem kIx_i {j : Int} {d : D} {ds : List D} : kIx i d (.int j, ρ) (.list ds) = (ixN ds.length j).bind fun n => some (ρ.set i (some (.list (ds.set n d)))) := rfl
theorem v_gIx {d : D} : mgIx i mi d ρ = (at? ρ i).bind fun _ => (mi ρ).bind fun q => (at? q.2 i).bind (kIx i d q) := by
  unfold mgIx
  rw [v_br, Option.bind_assoc]
  congr 1
  funext x
  show (mi ρ).bind _ = _
  congr 1
  funext q
  obtain ⟨d0, ρ2⟩ := q
  unfold at?
  cases d0 <;> cases h : ρ2[i]? with
  | none => rfl
  | some o =>
    cases o with
    | none => rfl
    | some c => cases c <;> first | rfl | exact Option.map_eq_bind ..
end
local macro_rules | `(tactic| exists $es,*) => `(tactic| simp only [v_var, v_mv, v_br, v_C, v_aNil, v_aCons, v_op, v_m1, v_m2, v_tr, v_and, v_or, v_not, v_andV, v_orV, v_notV, v_if, v_tup, v_lst, v_seq, v_skip, v_break, v_cont, v_drop, v_ret, v_ite, v_set, v_fz, v_th, v_asg, v_aug, v_call, v_fun, v_mut, v_no, v_pt, v_sl, v_chain, v_itL, v_for, v_lc, v_itU, v_it2, v_dc, v_callM, v_met, v_entM, v_outM, kMet_rt, kMet_nx, v_gIx, kIx_i, List.take_succ_cons, List.take_zero, List.drop_succ_cons, List.drop_zero, v_putU, v_disp, v_pCons, v_pNil,
  kTr_b, kSeq_nx, kSeq_rt, kSeq_bk, kSeq_ct, kFun_rt, kFun_nx, kPt_i, kSl_1, kCh_i, kCh2_i, kItL_l, kItU_l, kItU_t, kItU_s, Option.bind_some, Option.bind_none, at_zero, at_succ, at_nil, fill_nil, fill_fz, fill_ow, fill_br, Option.map_some, List.set_cons_zero, List.set_cons_succ, List.set_nil, List.map_cons, List.map_nil, List.cons_append, List.nil_append, List.append_nil, List.replicate_succ, List.replicate_zero, putB_nil, putB_br, putB_fz, putB_ow, outE_nil, outE_fz, outE_io, mgN_e, mgNil_e, mgCons_e, mgT_e, mgL_e, List.length_cons, List.length_nil, if_true, if_false, reduceIte, Bool.false_eq_true, Bool.not_true, Bool.not_false, decide_true, decide_false, dSub_i, dAdd_i, dAddU_i, dLt_i, dLe_i, dGt_i, dGe_i, dNeg_i, row_0, row_1, row_2, row_3, st_0, st_1, st_2, o_jump, o_branch, o_if, o_try, o_endtry, o_end, o_ncopy, o_faulty, o_counted, o_nm, o_label, o_hop, o_push, takes_ok, grows_ok, ix_gs, sl_gs, dEq_gs, dNe_gs, ix_wh, isTy_l, isTup_row, len_row, dEnum_map, Bool.true_and, Bool.false_and, Bool.and_true, Bool.and_false, $[$es:term],*])
section
variable {α : Type} {f : α → D}
def dictLS (f : α → D) (w : List (Str × α)) : List (D × D) := w.map fun p => (PyData.str p.1, f p.2)
def dictDS (f : α → D) (w : List (Str × α)) : D := .dict (dictLS f w)
def putAS (m : Str) (a : α) (w : List (Str × α)) : List (Str × α) := if (w.lookup m).isSome = true then w.map (fun p => if p.1 = m then (p.1, a) else p) else w ++ [(m, a)]
end
abbrev hD (w : List (Str × Val)) : D := dictDS Val.d w
section
variable {A0 A1 A2 A3 A4 A5 A6 A7 A8 A9 : Option D}
def resP (p : List Val) : Val ⊕ Str → List Val
  | .inl v => v :: p
  | .inr _ => p
def JOp.takes (o : JOp) (v : Val) : Bool := if o = .iftrue ∨ o = .ortrue then v.tr else !v.tr
def JOp.isIf (o : JOp) : Bool := match o with
  | .iftrue => true
  | .iffalse => true
  | _ => false
end
inductive End where
  | on
  | value (v : Val)
  | fault (k : Str) (l : Nat)
  deriving DecidableEq
def End.d : End → D
  | .on => .tuple [.str "on"]
  | .value v => .tuple [.str "value", v.d]
  | .fault k l => .tuple [.str "fault", .str k, dN l]
structure Mc where
  at_ : Nat
  pile : List Val
  sh : List (Nat × Int)
  held : List (Str × Val)
  out : List Val
  trail : List Nat
  last : End
def Row.isNeg : Row → Bool
  | .bare .neg _ => true
  | .bare .not _ => true
  | _ => false
def Row.isJmp : Row → Bool
  | .jmp _ _ _ => true
  | _ => false
section
variable {r : Row}
end
def kindK : Val ⊕ Str → Option Str
  | .inl _ => none
  | .inr k => some k
def kindOf : Val → Str
  | .str x => x
  | _ => "Type"
def doneM (c : Code) (r : Row) (m : Mc) : Option (Option Str × Mc) := match r with
  | .pr o _ => (match m.pile with
    | b :: a :: p => some (kindK (pairedV o a b), { m with pile := resP p (pairedV o a b) })
    | _ => none)
  | .bare .neg _ => (match m.pile with
    | a :: p => some (kindK (singleV .neg a), { m with pile := resP p (singleV .neg a) })
    | _ => none)
  | .bare .not _ => (match m.pile with
    | a :: p => some (kindK (singleV .not a), { m with pile := resP p (singleV .not a) })
    | _ => none)
  | .bare .ret _ => (match m.pile with
    | v :: p => some (none, { m with pile := p, last := .value v })
    | _ => none)
  | .bare .rais _ => (match m.pile with
    | v :: p => some (some (kindOf v), { m with pile := p })
    | _ => none)
  | .bare .drop _ => (match m.pile with
    | _ :: p => some (none, { m with pile := p })
    | _ => none)
  | .bare .tell _ => (match m.pile with
    | v :: p => some (none, { m with pile := p, out := m.out ++ [v] })
    | _ => none)
  | .nm .store n _ => (match m.pile with
    | v :: p => some (none, { m with pile := p, held := putAS n v m.held })
    | _ => none)
  | .nm .quick n _ => some (none, { m with pile := ((m.held.lookup n).getD .non) :: m.pile })
  | .nm .load n _ => (match m.held.lookup n with
    | none => some (some "Unset", m)
    | some v => some (none, { m with pile := v :: m.pile }))
  | .nm .clear n _ => (match m.held.lookup n with
    | none => some (some "Unset", m)
    | some _ => some (none, { m with held := m.held.filter fun p => decide (p.1 ≠ n) }))
  | .jmp .jump mk _ => ((whereL c).lookup mk).map fun q => (none, { m with at_ := q })
  | .jmp o mk _ => (match m.pile with
    | v :: p => ((whereL c).lookup mk).map fun q => (none, { m with pile := (if (o.takes v && !o.isIf) = true then v :: p else p), at_ := (if o.takes v = true then q else m.at_) })
    | _ => none)
  | .push v _ => some (none, { m with pile := v :: m.pile })
  | .copy n _ => if 1 ≤ n then (m.pile[n - 1]?).map fun v => (none, { m with pile := v :: m.pile }) else none
  | .swap n _ => if 1 ≤ n then (m.pile[0]?).bind fun x => (m.pile[n - 1]?).map fun y => (none, { m with pile := (m.pile.set 0 y).set (n - 1) x }) else none
  | _ => none
structure McOk (m : Mc) : Prop where
  vals : ∀ v, v ∈ m.pile → v.good
  pile : m.pile.length < 1000000
  held : m.held.length < 1000000
  out : m.out.length < 1000000
section
variable {A0 A1 A2 A3 A4 A5 A6 A7 A8 A9 : Option D} {l : Nat}
end
theorem p62 : (2 : Int) ^ 62 = 4611686018427387904 := by decide +kernel
section
variable {A0 A1 A2 A3 A4 A5 A6 A7 A8 A9 : Option D}
def faultM (c : Code) (k : Str) (l : Nat) (m : Mc) : Option Mc := match m.sh with
  | [] => some { m with last := .fault k l }
  | x :: g => if 0 ≤ x.2 then ((whereL c).lookup x.1).map fun q => { m with sh := g, pile := .str k :: m.pile.drop (m.pile.length - x.2.toNat), at_ := q } else none
def passStep (c : Code) (m : Mc) : Option (WR Mc Unit) := (c[m.at_]?).bind fun r => match r with
  | .tri mk _ => if m.sh.length < 1000000 then some (.go { m with sh := (mk, (m.pile.length : Int)) :: m.sh, at_ := m.at_ + 1 }) else none
  | .endtry _ => (match m.sh with
    | [] => none
    | _ :: g => some (.go { m with sh := g, at_ := m.at_ + 1 }))
  | .label _ _ => some (.go { m with at_ := m.at_ + 1 })
  | _ => some (.stop m)
def passM (c : Code) (m : Mc) : Option Mc := (runW (passStep c) (c.length + 2) m).bind fun z => match z with
  | .go m => some m
  | .out _ => none
def Row.isPseudo : Row → Bool
  | .tri _ _ => true
  | .endtry _ => true
  | .label _ _ => true
  | _ => false
end
def End.good : End → Prop
  | .on => True
  | .value v => v.good
  | .fault k _ => k ∈ kinds
def kindM (c : Code) (l : Nat) (m : Mc) : Option Str → Option Mc
  | none => some m
  | some k => faultM c k l m
def stepM (c : Code) (m : Mc) : Option Mc := (c[m.at_]?).bind fun r => (doneM c r { m with trail := m.trail ++ [m.at_], at_ := m.at_ + 1 }).bind fun z => (kindM c r.line z.2 z.1).bind fun (m3 : Mc) => if m3.last = End.on then passM c m3 else some m3
structure McIn (m : Mc) : Prop where
  ok : McOk m
  pile : m.pile.length < 900000
  trail : m.trail.length < 1000000
  last : m.last.good
theorem strOk_app {a b : Str} (ha : PyData.strOk a = true) (hb : PyData.strOk b = true) : PyData.strOk (a ++ b) = true := by
  show Array.all (a.cps ++ b.cps) _ = true
  rw [Array.all_append]
  show (PyData.strOk a && PyData.strOk b) = true
  rw [ha, hb]
  rfl
def RowsGood (c : Code) : Prop := ∀ v l, Row.push v l ∈ c → v.good
structure McIv (n : Nat) (m : Mc) : Prop where
  pile : ∀ v, v ∈ m.pile → v.good
  held : ∀ p, p ∈ m.held → p.2.good
  out : ∀ v, v ∈ m.out → v.good
  pl : m.pile.length ≤ m.trail.length + n
  hl : m.held.length ≤ m.trail.length + n
  ol : m.out.length ≤ m.trail.length
  last : m.last.good
local macro_rules | `(tactic| exists $es,*) => `(tactic| simp -implicitDefEqProofs only [v_var, v_mv, v_br, v_C, v_aNil, v_aCons, v_op, v_m1, v_m2, v_tr, v_and, v_or, v_not, v_andV, v_orV, v_notV, v_if, v_tup, v_lst, v_seq, v_skip, v_break, v_cont, v_drop, v_ret, v_ite, v_set, v_fz, v_th, v_asg, v_aug, v_call, v_fun, v_mut, v_no, v_pt, v_sl, v_chain, v_itL, v_for, v_lc, v_itU, v_it2, v_dc, v_callM, v_met, v_entM, v_outM, kMet_rt, kMet_nx, v_gIx, kIx_i, List.take_succ_cons, List.take_zero, List.drop_succ_cons, List.drop_zero, v_putU, v_disp, v_pCons, v_pNil,
  kTr_b, kSeq_nx, kSeq_rt, kSeq_bk, kSeq_ct, kFun_rt, kFun_nx, kPt_i, kSl_1, kCh_i, kCh2_i, kItL_l, kItU_l, kItU_t, kItU_s, Option.bind_some, Option.bind_none, at_zero, at_succ, at_nil, fill_nil, fill_fz, fill_ow, fill_br, Option.map_some, List.set_cons_zero, List.set_cons_succ, List.set_nil, List.map_cons, List.map_nil, List.cons_append, List.nil_append, List.append_nil, List.replicate_succ, List.replicate_zero, putB_nil, putB_br, putB_fz, putB_ow, outE_nil, outE_fz, outE_io, mgN_e, mgNil_e, mgCons_e, mgT_e, mgL_e, List.length_cons, List.length_nil, if_true, if_false, reduceIte, Bool.false_eq_true, Bool.not_true, Bool.not_false, decide_true, decide_false, dSub_i, dAdd_i, dAddU_i, dLt_i, dLe_i, dGt_i, dGe_i, dNeg_i, row_0, row_1, row_2, row_3, st_0, st_1, st_2, o_jump, o_branch, o_if, o_try, o_endtry, o_end, o_ncopy, o_faulty, o_counted, o_nm, o_label, o_hop, o_push, takes_ok, grows_ok, ix_gs, sl_gs, dEq_gs, dNe_gs, ix_wh, isTy_l, isTup_row, len_row, dEnum_map, Bool.true_and, Bool.false_and, Bool.and_true, Bool.and_false, $[$es:term],*])
theorem runW_inv {S R : Type} {step : S → Option (WR S R)} (I : S → Prop) (hs : ∀ s z, I s → step s = some z → wrP I I (fun _ => True) z) : ∀ {n : Nat} {s : S} {z : LR S R}, I s → runW step n s = some z → lrP I (fun _ => True) z
  | 0, _, _, _, h => by cases h
  | n + 1, s, z, hI, h => by
    obtain ⟨y, h1, h2⟩ := Option.bind_eq_some_iff.mp h
    have e := hs s y hI h1
    cases y with
    | go s' => exact runW_inv I hs (n := n) e h2
    | stop s' =>
      cases h2
      exact e
    | out r =>
      cases h2
      exact trivial
def Mc.like (m m' : Mc) : Prop := m'.pile = m.pile ∧ m'.held = m.held ∧ m'.out = m.out ∧ m'.trail = m.trail ∧ m'.last = m.last
theorem passM_like {c : Code} {m m' : Mc} (h : passM c m = some m') : m.like m' := by
  unfold passM at h
  obtain ⟨z, h1, h2⟩ := Option.bind_eq_some_iff.mp h
  have k := runW_inv (fun m' => m.like m') (fun s y hI hy => by
    obtain ⟨i1, i2, i3, i4, i5⟩ := hI
    obtain ⟨r, e1, e2⟩ := Option.bind_eq_some_iff.mp hy
    cases r with
    | tri mk l =>
      dsimp only at e2
      split at e2
      · cases e2
        exact ⟨i1, i2, i3, i4, i5⟩
      · cases e2
    | endtry l =>
      dsimp only at e2
      split at e2
      · cases e2
      · cases e2
        exact ⟨i1, i2, i3, i4, i5⟩
    | label mk l =>
      cases e2
      exact ⟨i1, i2, i3, i4, i5⟩
    | _ =>
      cases e2
      exact ⟨i1, i2, i3, i4, i5⟩) ⟨rfl, rfl, rfl, rfl, rfl⟩ h1
  cases z with
  | go m2 =>
    cases h2
    exact k
  | out u => cases h2
abbrev Mc.grown (m : Mc) : Mc := { m with trail := m.trail ++ [m.at_], at_ := m.at_ + 1 }
def runStep (c : Code) (steps : Nat) (m : Mc) : Option (WR Mc Unit) := if m.trail.length < steps then (if m.last = .on then (stepM c m).map .go else some (.stop m)) else some (.stop m)
def mc0 (names : List (Str × Val)) : Mc := ⟨0, [], [], names, [], [], .on⟩
def runM (c : Code) (names : List (Str × Val)) (steps : Nat) : Option Mc := (passM c (mc0 names)).bind fun m => (runW (runStep c steps) (steps + 2) m).bind fun z => match z with
  | .go m => some m
  | .out _ => none
structure NamesOk (names : List (Str × Val)) : Prop where
  few : names.length ≤ 8
  ok : ∀ p, p ∈ names → nameOk p.1 = true ∧ p.1.cps.size ≤ 100000 ∧ p.2.good
theorem NamesOk.good {names : List (Str × Val)} (h : NamesOk names) : ∀ p, p ∈ names → p.2.good := fun p hp => (h.ok p hp).2.2
def Stk : Int → List (Nat × Int) → Prop
  | d, [] => 0 ≤ d
  | d, x :: g => x.2 ≤ d ∧ Stk x.2 g
theorem Stk.pos : ∀ {g : List (Nat × Int)} {d : Int}, Stk d g → 0 ≤ d
  | [], _, h => h
  | x :: g, d, h => Int.le_trans (Stk.pos h.2) h.1
theorem Stk.up {g : List (Nat × Int)} {d e : Int} (h : Stk d g) (he : d ≤ e) : Stk e g := by
  cases g with
  | nil => exact Int.le_trans h he
  | cons x g => exact ⟨Int.le_trans h.1 he, h.2⟩
theorem Stk.tail {g : List (Nat × Int)} {d : Int} (h : Stk d g) : Stk d g.tail := by
  cases g with
  | nil => exact h
  | cons x g => exact h.2.up h.1
structure Fine (r : Row) (s : St) : Prop where
  takes : (r.takes : Int) ≤ s.d
  guard : r.isEndtry = true → s.g ≠ []
  beneath : beneath r s = false
theorem fine_of {n : Nat} {w : List (Nat × Nat)} {r : Row} {i : Nat} {s : St} (h : lacks n w r i s = some []) : Fine r s := by
  unfold lacks at h
  obtain ⟨l, _, h⟩ := Option.map_eq_some_iff.mp h
  obtain ⟨h, _⟩ := List.append_eq_nil_iff.mp h
  obtain ⟨h, h3⟩ := List.append_eq_nil_iff.mp h
  obtain ⟨h1, h2⟩ := List.append_eq_nil_iff.mp h
  refine ⟨?_, fun e z => ?_, ?_⟩
  · by_cases h4 : s.d < (r.takes : Int)
    · rw [if_pos h4] at h1
      cases h1
    · omega
  · rw [e, z] at h2
    cases h2
  · cases hb : beneath r s with
    | false => rfl
    | true =>
      rw [hb] at h3
      cases h3
theorem beneath_of {r : Row} {s : St} {x : Nat × Int} {g : List (Nat × Int)} (hg : s.g = x :: g) (h : beneath r s = false) (hc : r.isCopy = false) (ht : 0 < r.takes) : x.2 ≤ s.d - r.takes := by
  unfold beneath at h
  rw [hg, hc] at h
  simp only [Bool.not_false, Bool.true_and, decide_eq_true ht, Bool.true_and] at h
  have := of_decide_eq_false h
  omega
theorem stk_keep {r : Row} {s : St} {d : Int} (f : Fine r s) (h : Stk s.d s.g) (hd : s.d - r.takes ≤ d) (h0 : r.isCopy = true ∨ r.takes = 0 → s.d ≤ d) : Stk d s.g := by
  cases hg : s.g with
  | nil =>
    have := f.takes
    show 0 ≤ d
    omega
  | cons x g =>
    rw [hg] at h
    refine ⟨?_, h.2⟩
    by_cases hc : r.isCopy = true ∨ r.takes = 0
    · exact Int.le_trans h.1 (h0 hc)
    · have hc1 : r.isCopy = false := by
        cases e : r.isCopy with
        | false => rfl
        | true => exact (hc (.inl e)).elim
      have := beneath_of hg f.beneath hc1 (by
        have : r.takes ≠ 0 := fun z => hc (.inr z)
        omega)
      omega
theorem grows_takes (r : Row) : -(r.takes : Int) ≤ r.grows ∧ (r.isCopy = true ∨ r.takes = 0 → 0 ≤ r.grows) := by
  cases r with
  | nm o n l => cases o <;> simp [Row.takes, Row.grows, Row.isCopy]
  | jmp o m l => cases o <;> simp [Row.takes, Row.grows, Row.isCopy]
  | pr o l => simp [Row.takes, Row.grows, Row.isCopy]
  | bare o l => cases o <;> simp [Row.takes, Row.grows, Row.isCopy]
  | _ => simp [Row.takes, Row.grows, Row.isCopy] <;> omega
theorem plain_stk {w : List (Nat × Nat)} {r : Row} {i : Nat} {s : St} {l : List (Nat × St)} (f : Fine r s) (h : Stk s.d s.g) (hl : plainNext w r i s = some l) : ∀ q, q ∈ l → Stk q.2.d q.2.g ∧ q.2.d ≤ s.d + 1 := by
  unfold plainNext at hl
  split at hl
  · obtain ⟨p, _, rfl⟩ := Option.map_eq_some_iff.mp hl
    intro q hq
    rw [List.mem_singleton.mp hq]
    exact ⟨h, by show s.d ≤ s.d + 1; omega⟩
  · split at hl
    · rename_i hb
      obtain ⟨p, _, rfl⟩ := Option.map_eq_some_iff.mp hl
      have ht : r.takes = 1 ∧ r.isCopy = false := by
        cases r with
        | jmp o m l => cases o <;> first | exact ⟨rfl, rfl⟩ | cases hb
        | _ => cases hb
      have h1 : Stk (s.d - 1) s.g := stk_keep f h (by rw [ht.1]; exact Int.le_refl _) (fun z => by
        rcases z with z | z
        · rw [ht.2] at z
          cases z
        · rw [ht.1] at z
          cases z)
      intro q hq
      rcases List.mem_cons.mp hq with rfl | hq
      · exact ⟨h1, by show s.d - 1 ≤ s.d + 1; omega⟩
      · rw [List.mem_singleton.mp hq]
        show Stk (s.d - (if r.isIf then 1 else 0)) s.g ∧ s.d - (if r.isIf then 1 else 0) ≤ s.d + 1
        split
        · exact ⟨h1, by omega⟩
        · exact ⟨h.up (by omega), by omega⟩
    · split at hl
      · cases hl
        intro q hq
        rw [List.mem_singleton.mp hq]
        exact ⟨⟨Int.le_refl _, h⟩, by show s.d ≤ s.d + 1; omega⟩
      · split at hl
        · cases hl
          intro q hq
          rw [List.mem_singleton.mp hq]
          exact ⟨h.tail, by show s.d ≤ s.d + 1; omega⟩
        · split at hl
          · cases hl
            intro q hq
            cases hq
          · cases hl
            intro q hq
            rw [List.mem_singleton.mp hq]
            obtain ⟨g1, g2⟩ := grows_takes r
            have g3 : r.grows ≤ 1 := by
              cases r with
              | nm o n l => cases o <;> simp [Row.grows]
              | jmp o m l => simp [Row.grows]
              | pr o l => simp [Row.grows]
              | bare o l => cases o <;> simp [Row.grows]
              | _ => simp [Row.grows]
            exact ⟨stk_keep (r := r) (s := s) (d := s.d + r.grows) f h (by omega) (fun z => by have := g2 z; omega), by show s.d + r.grows ≤ s.d + 1; omega⟩
theorem all_stk {w : List (Nat × Nat)} {r : Row} {i : Nat} {s : St} {l : List (Nat × St)} (f : Fine r s) (h : Stk s.d s.g) (hl : allNext w r i s = some l) : ∀ q, q ∈ l → Stk q.2.d q.2.g ∧ q.2.d ≤ s.d + 1 := by
  unfold allNext at hl
  obtain ⟨l0, h1, h2⟩ := Option.bind_eq_some_iff.mp hl
  have h3 := plain_stk f h h1
  obtain ⟨d, gs⟩ := s
  cases gs with
  | nil =>
    cases h2
    exact h3
  | cons x g =>
    dsimp only at h2
    split at h2
    · obtain ⟨p, _, rfl⟩ := Option.map_eq_some_iff.mp h2
      intro q hq
      rcases List.mem_append.mp hq with hq | hq
      · exact h3 q hq
      · rw [List.mem_singleton.mp hq]
        refine ⟨h.2.up (by show x.2 ≤ x.2 + 1; omega), ?_⟩
        have : x.2 ≤ d := h.1
        show x.2 + 1 ≤ d + 1
        omega
    · cases h2
      exact h3
theorem Trail.stk {c : Code} {wk : List Nat} {s : St} (h : Trail c wk s) : Stk s.d s.g ∧ s.d < wk.length := by
  induction h with
  | base => exact ⟨Int.le_refl _, by decide⟩
  | @step wk s s' i p r l h1 h2 h3 h4 h5 h6 ih =>
    obtain ⟨a, b⟩ := all_stk (fine_of h4) ih.1 h5 _ h6
    refine ⟨a, ?_⟩
    have b : s'.d ≤ s.d + 1 := b
    have := ih.2
    rw [List.length_append, List.length_singleton]
    omega
structure Sound (c : Code) : Prop where
  ok : CodeOk c
  fits : ∀ i s, Reach c i s → ∃ r l, c[i]? = some r ∧ lacks c.length (whereL c) r i s = some [] ∧ allNext (whereL c) r i s = some l
  one : ∀ i s s', Reach c i s → Reach c i s' → s = s'
  short : ∀ i s, Reach c i s → s.g.length ≤ c.length ∧ s.d ≤ c.length
theorem Reach.stk {c : Code} {i : Nat} {s : St} (h : Reach c i s) : Stk s.d s.g := by
  obtain ⟨wk, h1, _⟩ := h
  exact h1.stk.1
theorem Reach.gs {c : Code} (g : Good c) {i : Nat} {s : St} (h : Reach c i s) : GsOk c s.g := by
  obtain ⟨wk, h1, _⟩ := h
  exact (h1.gs g).1
theorem Reach.next {c : Code} {i : Nat} {s : St} {r : Row} {l : List (Nat × St)} {q : Nat × St} (h : Reach c i s) (h1 : c[i]? = some r) (h2 : lacks c.length (whereL c) r i s = some []) (h3 : allNext (whereL c) r i s = some l) (hq : q ∈ l) : Reach c q.1 q.2 := by
  obtain ⟨wk, y1, y2⟩ := h
  exact ⟨wk ++ [q.1], .step y1 y2 h1 h2 h3 hq, List.getLast?_concat⟩
def AtR (c : Code) (m : Mc) : Prop := Reach c m.at_ ⟨(m.pile.length : Int), m.sh⟩
def Ready (c : Code) (m : Mc) : Prop := AtR c m ∧ ∃ r, c[m.at_]? = some r ∧ r.isPseudo = false
theorem pass_total {c : Code} (S : Sound c) : ∀ (n : Nat) (m : Mc), AtR c m → c.length ≤ m.at_ + n → ∃ m', runW (passStep c) (n + 1) m = some (.go m') ∧ Ready c m'
  | n, m, h, hn => by
    obtain ⟨r, l, h1, h2, h3⟩ := S.fits _ _ h
    have hi := (List.getElem?_eq_some_iff.mp h1).1
    have hn0 : n ≠ 0 := by omega
    obtain ⟨n', rfl⟩ := Nat.exists_eq_succ_of_ne_zero hn0
    have f := fine_of h2
    have hend := lacks_end h3 h2
    have hs := S.short _ _ h
    have few := S.ok.few
    obtain ⟨at_, pile, sh, held, out, trail, last⟩ := m
    have h1 : c[at_]? = some r := h1
    have step : ∀ (m2 : Mc), passStep c ⟨at_, pile, sh, held, out, trail, last⟩ = some (.go m2) → AtR c m2 → m2.at_ = at_ + 1 → ∃ m', runW (passStep c) (n' + 1 + 1) ⟨at_, pile, sh, held, out, trail, last⟩ = some (.go m') ∧ Ready c m' := fun m2 e hm ha => by
      obtain ⟨m', k1, k2⟩ := pass_total S n' m2 hm (by rw [ha]; have hn : c.length ≤ at_ + (n' + 1) := hn; omega)
      refine ⟨m', ?_, k2⟩
      show (passStep c _).bind _ = _
      rw [e]
      exact k1
    have stop : r.isPseudo = false → passStep c ⟨at_, pile, sh, held, out, trail, last⟩ = some (.stop ⟨at_, pile, sh, held, out, trail, last⟩) → ∃ m', runW (passStep c) (n' + 1 + 1) ⟨at_, pile, sh, held, out, trail, last⟩ = some (.go m') ∧ Ready c m' := fun hr e => by
      refine ⟨_, ?_, h, r, h1, hr⟩
      show (passStep c _).bind _ = _
      rw [e]
      rfl
    have un : passStep c ⟨at_, pile, sh, held, out, trail, last⟩ = (match (generalizing := false) r with
      | .tri mk _ => if sh.length < 1000000 then some (.go ⟨at_ + 1, pile, (mk, (pile.length : Int)) :: sh, held, out, trail, last⟩) else none
      | .endtry _ => (match (generalizing := false) sh with
        | [] => none
        | _ :: g => some (.go ⟨at_ + 1, pile, g, held, out, trail, last⟩))
      | .label _ _ => some (.go ⟨at_ + 1, pile, sh, held, out, trail, last⟩)
      | _ => some (.stop ⟨at_, pile, sh, held, out, trail, last⟩)) := by
      unfold passStep
      show (c[at_]?).bind _ = _
      rw [h1]
      rfl
    have nx : ∀ q, q ∈ l → Reach c q.1 q.2 := fun q hq => h.next h1 h2 h3 hq
    have inl : ∀ (q : Nat × St), plainNext (whereL c) r at_ ⟨(pile.length : Int), sh⟩ = some [q] → q ∈ l := fun q hq => by
      unfold allNext at h3
      have h3 : (plainNext (whereL c) r at_ ⟨(pile.length : Int), sh⟩).bind _ = some l := h3
      rw [hq] at h3
      cases sh with
      | nil =>
        cases h3
        exact List.mem_cons_self
      | cons x g =>
        have h3 : (if r.isFaulty = true then ((whereL c).lookup x.1).map fun p => [q] ++ [(p, ⟨x.2 + 1, g⟩)] else some [q]) = some l := h3
        split at h3
        · obtain ⟨p, _, rfl⟩ := Option.map_eq_some_iff.mp h3
          exact List.mem_cons_self
        · cases h3
          exact List.mem_cons_self
    cases r with
    | tri mk l' =>
      have hs1 : sh.length ≤ c.length := hs.1
      refine step ⟨at_ + 1, pile, (mk, (pile.length : Int)) :: sh, held, out, trail, last⟩ ?_ ?_ rfl
      · rw [un]
        show (if sh.length < 1000000 then _ else _) = _
        rw [if_pos (by omega)]
      · exact nx (at_ + 1, ⟨(pile.length : Int), (mk, (pile.length : Int)) :: sh⟩) (inl _ rfl)
    | endtry l' =>
      cases sh with
      | nil => exact (f.guard rfl rfl).elim
      | cons x g =>
        refine step ⟨at_ + 1, pile, g, held, out, trail, last⟩ ?_ ?_ rfl
        · rw [un]
        · exact nx (at_ + 1, ⟨(pile.length : Int), g⟩) (inl _ rfl)
    | label mk l' =>
      refine step ⟨at_ + 1, pile, sh, held, out, trail, last⟩ ?_ ?_ rfl
      · rw [un]
      · refine nx (at_ + 1, ⟨(pile.length : Int), sh⟩) (inl _ ?_)
        show some [(at_ + 1, (⟨(pile.length : Int) + 0, sh⟩ : St))] = _
        rw [Int.add_zero]
    | _ => exact stop rfl (by rw [un])
theorem passM_total {c : Code} (S : Sound c) {m : Mc} (h : AtR c m) : ∃ m', passM c m = some m' ∧ Ready c m' := by
  obtain ⟨m', k1, k2⟩ := pass_total S (c.length + 1) m h (by omega)
  refine ⟨m', ?_, k2⟩
  unfold passM
  rw [k1]
  rfl
structure DoneS (c : Code) (r : Row) (i : Nat) (m : Mc) (k : Option Str) (m2 : Mc) : Prop where
  sh : m2.sh = m.sh
  on : k = none → (m2.last = m.last ∧ ∀ l, plainNext (whereL c) r i ⟨(m.pile.length : Int), m.sh⟩ = some l → (m2.at_, (⟨(m2.pile.length : Int), m2.sh⟩ : St)) ∈ l) ∨ ∃ v, m2.last = .value v
  flt : ∀ z, k = some z → r.isFaulty = true ∧ m2.last = m.last ∧ m2.pile.length + r.takes = m.pile.length
theorem kindK_none {x : Val ⊕ Str} (h : kindK x = none) {p : List Val} : (resP p x).length = p.length + 1 := by
  cases x with
  | inl v => rfl
  | inr k => cases h
theorem kindK_some {x : Val ⊕ Str} {z : Str} (h : kindK x = some z) {p : List Val} : resP p x = p := by
  cases x with
  | inl v => cases h
  | inr k => rfl
theorem same_no {a b : Val} {z : Str} : kindK (pairedV .same a b) ≠ some z := fun h => by cases h
theorem done_total {c : Code} (g : Good c) {r : Row} {i : Nat} {m : Mc} (hr : c[i]? = some r) (hp : r.isPseudo = false) (hat : m.at_ = i + 1) (ht : r.takes ≤ m.pile.length) (hok : r.ok = true) : ∃ k m2, doneM c r m = some (k, m2) ∧ DoneS c r i m k m2 := by
  obtain ⟨at_, pile, sh, held, out, trail, last⟩ := m
  have hat : at_ = i + 1 := hat
  subst hat
  have ht : r.takes ≤ pile.length := ht
  have mem1 : ∀ {l : List (Nat × St)} {q q' : Nat × St}, some [q] = some l → q' = q → q' ∈ l := fun h e => by
    cases h
    rw [e]
    exact List.mem_singleton.mpr rfl
  cases r with
  | tri mk l => cases hp
  | label mk l => cases hp
  | endtry l => cases hp
  | push v l =>
    exact ⟨none, _, rfl, rfl, fun _ => .inl ⟨rfl, fun l h => mem1 h rfl⟩, fun z h => by cases h⟩
  | copy n l =>
    have ht : n ≤ pile.length := ht
    have hn : 1 ≤ n := by
      have hok : (decide (l ≤ 9999) && (decide (1 ≤ n) && decide (n ≤ 9))) = true := hok
      exact of_decide_eq_true (Bool.and_eq_true_iff.mp (Bool.and_eq_true_iff.mp hok).2).1
    refine ⟨none, ⟨i + 1, pile[n - 1] :: pile, sh, held, out, trail, last⟩, ?_, rfl, fun _ => .inl ⟨rfl, fun l h => mem1 h rfl⟩, fun z h => by cases h⟩
    show (if 1 ≤ n then _ else none) = _
    rw [if_pos hn, List.getElem?_eq_getElem (show n - 1 < pile.length by omega)]
    rfl
  | swap n l =>
    have ht : n ≤ pile.length := ht
    have hn : 2 ≤ n := by
      have hok : (decide (l ≤ 9999) && (decide (2 ≤ n) && decide (n ≤ 9))) = true := hok
      exact of_decide_eq_true (Bool.and_eq_true_iff.mp (Bool.and_eq_true_iff.mp hok).2).1
    refine ⟨none, ⟨i + 1, (pile.set 0 pile[n - 1]).set (n - 1) pile[0], sh, held, out, trail, last⟩, ?_, rfl, fun _ => .inl ⟨rfl, fun l h => mem1 h ?_⟩, fun z h => by cases h⟩
    · show (if 1 ≤ n then _ else none) = _
      rw [if_pos (by omega), List.getElem?_eq_getElem (show 0 < pile.length by omega), List.getElem?_eq_getElem (show n - 1 < pile.length by omega)]
      rfl
    · show (i + 1, (⟨(((pile.set 0 pile[n - 1]).set (n - 1) pile[0]).length : Int), sh⟩ : St)) = (i + 1, ⟨(pile.length : Int) + 0, sh⟩)
      rw [List.length_set, List.length_set, Int.add_zero]
  | pr o l =>
    match pile, ht with
    | b :: a :: p, ht =>
      refine ⟨kindK (pairedV o a b), ⟨i + 1, resP p (pairedV o a b), sh, held, out, trail, last⟩, rfl, rfl, fun h => .inl ⟨rfl, fun l h2 => mem1 h2 ?_⟩, fun z h => ⟨?_, rfl, ?_⟩⟩
      · show (i + 1, (⟨((resP p (pairedV o a b)).length : Int), sh⟩ : St)) = (i + 1, ⟨((b :: a :: p).length : Int) + (-1), sh⟩)
        rw [kindK_none h, List.length_cons, List.length_cons]
        have : ((p.length + 1 : Nat) : Int) = ((p.length + 1 + 1 : Nat) : Int) + -1 := by omega
        rw [this]
      · cases o <;> first | rfl | exact (same_no h).elim
      · show (resP p (pairedV o a b)).length + 2 = (b :: a :: p).length
        rw [kindK_some h]
        rfl
  | bare o l =>
    cases o with
    | neg =>
      match pile, ht with
      | a :: p, ht =>
        refine ⟨kindK (singleV .neg a), ⟨i + 1, resP p (singleV .neg a), sh, held, out, trail, last⟩, rfl, rfl, fun h => .inl ⟨rfl, fun l h2 => mem1 h2 ?_⟩, fun z h => ⟨rfl, rfl, ?_⟩⟩
        · show (i + 1, (⟨((resP p (singleV .neg a)).length : Int), sh⟩ : St)) = (i + 1, ⟨((a :: p).length : Int) + 0, sh⟩)
          rw [kindK_none h, Int.add_zero]
          rfl
        · show (resP p (singleV .neg a)).length + 1 = (a :: p).length
          rw [kindK_some h]
          rfl
    | not =>
      match pile, ht with
      | a :: p, ht =>
        refine ⟨none, ⟨i + 1, .bool (!a.tr) :: p, sh, held, out, trail, last⟩, rfl, rfl, fun h => .inl ⟨rfl, fun l h2 => mem1 h2 ?_⟩, fun z h => by cases h⟩
        show (i + 1, (⟨((Val.bool (!a.tr) :: p).length : Int), sh⟩ : St)) = (i + 1, ⟨((a :: p).length : Int) + 0, sh⟩)
        rw [Int.add_zero]
        rfl
    | drop =>
      match pile, ht with
      | a :: p, ht =>
        refine ⟨none, ⟨i + 1, p, sh, held, out, trail, last⟩, rfl, rfl, fun h => .inl ⟨rfl, fun l h2 => mem1 h2 ?_⟩, fun z h => by cases h⟩
        show (i + 1, (⟨(p.length : Int), sh⟩ : St)) = (i + 1, ⟨((a :: p).length : Int) + (-1), sh⟩)
        rw [List.length_cons, show ((p.length + 1 : Nat) : Int) + -1 = (p.length : Int) by omega]
    | tell =>
      match pile, ht with
      | a :: p, ht =>
        refine ⟨none, ⟨i + 1, p, sh, held, out ++ [a], trail, last⟩, rfl, rfl, fun h => .inl ⟨rfl, fun l h2 => mem1 h2 ?_⟩, fun z h => by cases h⟩
        show (i + 1, (⟨(p.length : Int), sh⟩ : St)) = (i + 1, ⟨((a :: p).length : Int) + (-1), sh⟩)
        rw [List.length_cons, show ((p.length + 1 : Nat) : Int) + -1 = (p.length : Int) by omega]
    | ret =>
      match pile, ht with
      | a :: p, ht => exact ⟨none, ⟨i + 1, p, sh, held, out, trail, .value a⟩, rfl, rfl, fun h => .inr ⟨a, rfl⟩, fun z h => by cases h⟩
    | rais =>
      match pile, ht with
      | a :: p, ht => exact ⟨some (kindOf a), ⟨i + 1, p, sh, held, out, trail, last⟩, rfl, rfl, fun h => by (cases h), fun z h => ⟨rfl, rfl, rfl⟩⟩
  | nm o n l =>
    cases o with
    | store =>
      match pile, ht with
      | a :: p, ht =>
        refine ⟨none, ⟨i + 1, p, sh, putAS n a held, out, trail, last⟩, rfl, rfl, fun h => .inl ⟨rfl, fun l h2 => mem1 h2 ?_⟩, fun z h => by cases h⟩
        show (i + 1, (⟨(p.length : Int), sh⟩ : St)) = (i + 1, ⟨((a :: p).length : Int) + (-1), sh⟩)
        rw [List.length_cons, show ((p.length + 1 : Nat) : Int) + -1 = (p.length : Int) by omega]
    | quick => exact ⟨none, _, rfl, rfl, fun _ => .inl ⟨rfl, fun l h => mem1 h rfl⟩, fun z h => by cases h⟩
    | load =>
      cases e : held.lookup n with
      | none =>
        refine ⟨some "Unset", ⟨i + 1, pile, sh, held, out, trail, last⟩, ?_, rfl, fun h => by (cases h), fun z h => ⟨rfl, rfl, rfl⟩⟩
        show (match held.lookup n with | none => _ | some v => _) = _
        rw [e]
      | some v =>
        refine ⟨none, ⟨i + 1, v :: pile, sh, held, out, trail, last⟩, ?_, rfl, fun _ => .inl ⟨rfl, fun l h => mem1 h rfl⟩, fun z h => by cases h⟩
        show (match held.lookup n with | none => _ | some v => _) = _
        rw [e]
    | clear =>
      cases e : held.lookup n with
      | none =>
        refine ⟨some "Unset", ⟨i + 1, pile, sh, held, out, trail, last⟩, ?_, rfl, fun h => by (cases h), fun z h => ⟨rfl, rfl, rfl⟩⟩
        show (match held.lookup n with | none => _ | some v => _) = _
        rw [e]
      | some v =>
        refine ⟨none, ⟨i + 1, pile, sh, held.filter fun p => decide (p.1 ≠ n), out, trail, last⟩, ?_, rfl, fun _ => .inl ⟨rfl, fun l h => mem1 h ?_⟩, fun z h => by cases h⟩
        · show (match held.lookup n with | none => _ | some v => _) = _
          rw [e]
        · show (i + 1, (⟨(pile.length : Int), sh⟩ : St)) = (i + 1, ⟨(pile.length : Int) + 0, sh⟩)
          rw [Int.add_zero]
  | jmp o mk l =>
    obtain ⟨q, hq0, _⟩ := g.at hr rfl
    have hq2 : (whereL c).lookup mk = some q := hq0
    by_cases ho : o = .jump
    · subst ho
      refine ⟨none, ⟨q, pile, sh, held, out, trail, last⟩, ?_, rfl, fun _ => .inl ⟨rfl, fun l h => ?_⟩, fun z h => by cases h⟩
      · show ((whereL c).lookup mk).map _ = _
        rw [hq2]
        rfl
      · have h : ((whereL c).lookup mk).map (fun p => [(p, (⟨(pile.length : Int), sh⟩ : St))]) = some l := h
        rw [hq2] at h
        cases h
        exact List.mem_singleton.mpr rfl
    · have htk : 1 ≤ pile.length := by cases o <;> first | exact ht | exact (ho rfl).elim
      match pile, htk with
      | v :: p, _ =>
        refine ⟨none, ⟨(if o.takes v = true then q else i + 1), (if (o.takes v && !o.isIf) = true then v :: p else p), sh, held, out, trail, last⟩, ?_, rfl, fun _ => .inl ⟨rfl, fun l h => ?_⟩, fun z h => by cases h⟩
        · have e : doneM c (.jmp o mk l) ⟨i + 1, v :: p, sh, held, out, trail, last⟩ = ((whereL c).lookup mk).map fun q => (none, Mc.mk (if o.takes v = true then q else i + 1) (if (o.takes v && !o.isIf) = true then v :: p else p) sh held out trail last) := by
            cases o <;> first | rfl | exact (ho rfl).elim
          rw [e, hq2]
          rfl
        · have h : ((whereL c).lookup mk).map (fun p' => [(i + 1, (⟨((v :: p).length : Int) - 1, sh⟩ : St)), (p', ⟨((v :: p).length : Int) - (if o.isIf = true then 1 else 0), sh⟩)]) = some l := by
            cases o <;> first | exact h | exact (ho rfl).elim
          rw [hq2] at h
          cases h
          have e1 : ((v :: p).length : Int) - 1 = (p.length : Int) := by rw [List.length_cons]; omega
          cases o.takes v with
          | false =>
            refine List.mem_cons.mpr (.inl ?_)
            rw [e1]
            rfl
          | true =>
            refine List.mem_cons.mpr (.inr (List.mem_singleton.mpr ?_))
            cases o.isIf with
            | true =>
              show (q, (⟨(p.length : Int), sh⟩ : St)) = (q, ⟨((v :: p).length : Int) - 1, sh⟩)
              rw [e1]
            | false =>
              show (q, (⟨((v :: p).length : Int), sh⟩ : St)) = (q, ⟨((v :: p).length : Int) - 0, sh⟩)
              rw [Int.sub_zero]
theorem step_total {c : Code} (S : Sound c) {m : Mc} (h : Ready c m) (hl : m.last = .on) : ∃ m', stepM c m = some m' ∧ (m'.last = .on → Ready c m') := by
  obtain ⟨hA, r, hr, hp⟩ := h
  obtain ⟨r', l, h1, h2, h3⟩ := S.fits _ _ hA
  rw [hr] at h1
  cases h1
  have f := fine_of h2
  have hmem := List.mem_of_getElem? hr
  have ht : r.takes ≤ m.pile.length := by
    have := f.takes
    have : (r.takes : Int) ≤ (m.pile.length : Int) := this
    omega
  obtain ⟨k, m2, d1, D⟩ := done_total (m := m.grown) S.ok.good hr hp rfl ht (S.ok.rows r hmem).1
  have dsh : m2.sh = m.sh := D.sh
  obtain ⟨l0, e1⟩ : ∃ l0, plainNext (whereL c) r m.at_ ⟨(m.pile.length : Int), m.sh⟩ = some l0 := by
    unfold allNext at h3
    obtain ⟨l0, e, _⟩ := Option.bind_eq_some_iff.mp h3
    exact ⟨l0, e⟩
  have sub : ∀ q, q ∈ l0 → q ∈ l := fun q hq => by
    unfold allNext at h3
    rw [e1] at h3
    have h3 : (match m.sh with
      | [] => some l0
      | x :: g => if r.isFaulty = true then ((whereL c).lookup x.1).map fun p => l0 ++ [(p, ⟨x.2 + 1, g⟩)] else some l0) = some l := h3
    split at h3
    · cases h3
      exact hq
    · split at h3
      · obtain ⟨p, _, rfl⟩ := Option.map_eq_some_iff.mp h3
        exact List.mem_append_left _ hq
      · cases h3
        exact hq
  -- behind the row, and its fault
  have main : ∃ m3, kindM c r.line m2 k = some m3 ∧ (m3.last = .on → AtR c m3) := by
    cases k with
    | none =>
      refine ⟨m2, rfl, fun hon => ?_⟩
      rcases D.on rfl with ⟨_, h4⟩ | ⟨v, h4⟩
      · exact hA.next hr h2 h3 (sub _ (h4 l0 e1))
      · rw [h4] at hon
        cases hon
    | some z =>
      obtain ⟨f1, f2, f3⟩ := D.flt z rfl
      have f3 : m2.pile.length + r.takes = m.pile.length := f3
      show ∃ m3, faultM c z r.line m2 = some m3 ∧ _
      cases hs : m.sh with
      | nil =>
        refine ⟨{ m2 with last := .fault z r.line }, ?_, fun hon => by cases hon⟩
        unfold faultM
        rw [dsh, hs]
      | cons x g =>
        have stk : Stk (m.pile.length : Int) (x :: g) := by
          have := hA.stk
          have : Stk (m.pile.length : Int) m.sh := this
          rw [hs] at this
          exact this
        have x0 : 0 ≤ x.2 := stk.2.pos
        obtain ⟨q, hq⟩ := Option.isSome_iff_exists.mp (hA.gs S.ok.good x (by show x ∈ m.sh; rw [hs]; exact List.mem_cons_self))
        have low : x.2 ≤ (m2.pile.length : Int) := by
          by_cases hc : r.isCopy = true ∨ r.takes = 0
          · have : r.takes = 0 := by
              rcases hc with hc | hc
              · cases r <;> first | (cases hc; done) | cases f1
              · exact hc
            have := stk.1
            omega
          · have hc1 : r.isCopy = false := by
              cases e : r.isCopy with
              | false => rfl
              | true => exact (hc (.inl e)).elim
            have := beneath_of (s := ⟨(m.pile.length : Int), m.sh⟩) hs f.beneath hc1 (by
              have : r.takes ≠ 0 := fun z => hc (.inr z)
              omega)
            have : x.2 ≤ (m.pile.length : Int) - r.takes := this
            omega
        refine ⟨{ m2 with sh := g, pile := .str z :: m2.pile.drop (m2.pile.length - x.2.toNat), at_ := q }, ?_, fun _ => ?_⟩
        · unfold faultM
          rw [dsh, hs]
          show (if 0 ≤ x.2 then _ else none) = _
          rw [if_pos x0, hq]
          rfl
        · have hn : (q, (⟨x.2 + 1, g⟩ : St)) ∈ l := by
            unfold allNext at h3
            rw [e1] at h3
            have h3 : (match m.sh with
              | [] => some l0
              | x :: g => if r.isFaulty = true then ((whereL c).lookup x.1).map fun p => l0 ++ [(p, ⟨x.2 + 1, g⟩)] else some l0) = some l := h3
            rw [hs] at h3
            have h3 : (if r.isFaulty = true then ((whereL c).lookup x.1).map fun p => l0 ++ [(p, (⟨x.2 + 1, g⟩ : St))] else some l0) = some l := h3
            rw [if_pos f1, hq] at h3
            cases h3
            exact List.mem_append_right _ (List.mem_singleton.mpr rfl)
          have := hA.next hr h2 h3 hn
          show Reach c q ⟨((Val.str z :: m2.pile.drop (m2.pile.length - x.2.toNat)).length : Int), g⟩
          rw [List.length_cons, List.length_drop, show ((m2.pile.length - (m2.pile.length - x.2.toNat) + 1 : Nat) : Int) = x.2 + 1 by omega]
          exact this
  obtain ⟨m3, k1, k2⟩ := main
  have hst : ∀ X, (if m3.last = .on then passM c m3 else some m3) = X → stepM c m = X := fun X hX => by
    unfold stepM
    rw [hr]
    show (doneM c r m.grown).bind _ = X
    rw [d1]
    show (kindM c r.line m2 k).bind _ = X
    rw [k1]
    exact hX
  by_cases hon : m3.last = .on
  · obtain ⟨m', p1, p2⟩ := passM_total S (k2 hon)
    exact ⟨m', hst _ (by rw [if_pos hon]; exact p1), fun _ => p2⟩
  · exact ⟨m3, hst _ (by rw [if_neg hon]), fun e => (hon e).elim⟩
theorem run_total {c : Code} (S : Sound c) (names : List (Str × Val)) (steps : Nat) : ∃ m, runM c names steps = some m ∧ (m.last = .on → Ready c m) := by
  have h0 : AtR c (mc0 names) := ⟨[0], .base, rfl⟩
  obtain ⟨m1, p1, p2⟩ := passM_total S h0
  have main : ∀ (n : Nat) (m : Mc), (m.last = .on → Ready c m) → steps ≤ m.trail.length + n → ∃ m', runW (runStep c steps) (n + 1) m = some (.go m') ∧ (m'.last = .on → Ready c m') := by
    intro n
    induction n with
    | zero =>
      intro m hm hn
      refine ⟨m, ?_, hm⟩
      show (runStep c steps m).bind _ = _
      unfold runStep
      rw [if_neg (by omega)]
      rfl
    | succ n ih =>
      intro m hm hn
      by_cases h : m.trail.length < steps
      · by_cases hl : m.last = .on
        · obtain ⟨m', s1, s2⟩ := step_total S (hm hl) hl
          have tl : m'.trail = m.trail ++ [m.at_] := by
            obtain ⟨r, e1, e2⟩ := Option.bind_eq_some_iff.mp s1
            obtain ⟨⟨k, m2⟩, e3, e4⟩ := Option.bind_eq_some_iff.mp e2
            obtain ⟨m3, e5, e6⟩ := Option.bind_eq_some_iff.mp e4
            have t2 : m2.trail = m.trail ++ [m.at_] := by
              have t : ∀ {mm : Mc} {kk : Option Str} {m2 : Mc}, doneM c r mm = some (kk, m2) → m2.trail = mm.trail := fun {mm kk m2} h => by
                obtain ⟨at_, pile, sh, held, out, trail, last⟩ := mm
                cases r with
                | pr o l => match pile, h with | b :: a :: p, h => cases h; rfl
                | push v l => cases h; rfl
                | copy n l =>
                  unfold doneM at h
                  dsimp only at h
                  split at h
                  · obtain ⟨v, _, h2⟩ := Option.map_eq_some_iff.mp h
                    cases h2
                    rfl
                  · cases h
                | swap n l =>
                  unfold doneM at h
                  dsimp only at h
                  split at h
                  · obtain ⟨x, _, h2⟩ := Option.bind_eq_some_iff.mp h
                    obtain ⟨y, _, h4⟩ := Option.map_eq_some_iff.mp h2
                    cases h4
                    rfl
                  · cases h
                | tri mk l => cases h
                | label mk l => cases h
                | endtry l => cases h
                | bare o l => cases o <;> (match pile, h with | a :: p, h => cases h; rfl)
                | nm o n l =>
                  cases o with
                  | store => match pile, h with | a :: p, h => cases h; rfl
                  | quick => cases h; rfl
                  | load => (unfold doneM at h; dsimp only at h; split at h <;> cases h <;> rfl)
                  | clear => (unfold doneM at h; dsimp only at h; split at h <;> cases h <;> rfl)
                | jmp o mk l =>
                  by_cases ho : o = .jump
                  · subst ho
                    obtain ⟨q, _, h2⟩ := Option.map_eq_some_iff.mp h
                    cases h2
                    rfl
                  · have h : (match (generalizing := false) pile with
                      | v :: p => ((whereL c).lookup mk).map fun q => (none, Mc.mk (if o.takes v = true then q else at_) (if (o.takes v && !o.isIf) = true then v :: p else p) sh held out trail last)
                      | _ => none) = some (kk, m2) := by
                      cases o <;> first | exact h | exact (ho rfl).elim
                    match pile, h with
                    | v :: p, h =>
                      obtain ⟨q, _, h2⟩ := Option.map_eq_some_iff.mp h
                      cases h2
                      rfl
              exact t e3
            have t3 : m3.trail = m2.trail := by
              cases k with
              | none => cases e5; rfl
              | some z =>
                have e5 : faultM c z r.line m2 = some m3 := e5
                unfold faultM at e5
                split at e5
                · cases e5
                  rfl
                · split at e5
                  · obtain ⟨q, _, h2⟩ := Option.map_eq_some_iff.mp e5
                    cases h2
                    rfl
                  · cases e5
            split at e6
            · exact (passM_like e6).2.2.2.1.trans (t3.trans t2)
            · cases e6
              exact t3.trans t2
          obtain ⟨m'', k1, k2⟩ := ih m' s2 (by rw [tl, List.length_append, List.length_singleton]; omega)
          refine ⟨m'', ?_, k2⟩
          show (runStep c steps m).bind _ = _
          unfold runStep
          rw [if_pos h, if_pos hl, s1]
          exact k1
        · refine ⟨m, ?_, hm⟩
          show (runStep c steps m).bind _ = _
          unfold runStep
          rw [if_pos h, if_neg hl]
          rfl
      · refine ⟨m, ?_, hm⟩
        show (runStep c steps m).bind _ = _
        unfold runStep
        rw [if_neg h]
        rfl
  obtain ⟨m, k1, k2⟩ := main (steps + 1) m1 (fun _ => p2) (by omega)
  refine ⟨m, ?_, k2⟩
  unfold runM
  rw [p1]
  show (runW (runStep c steps) (steps + 2) m1).bind _ = _
  rw [k1]
  rfl
def fallS (r : Row) (s : St) : Option St := if r.isJump = true then none
  else if r.isBranch = true then some ⟨s.d - 1, s.g⟩
  else if r.isTri = true then some ⟨s.d, (r.mark, s.d) :: s.g⟩
  else if r.isEndtry = true then some ⟨s.d, s.g.tail⟩
  else if r.isEnd = true then none
  else some ⟨s.d + r.grows, s.g⟩
def goalS (r : Row) (s : St) : St := if r.isJump = true then s else ⟨s.d - (if r.isIf then 1 else 0), s.g⟩
structure RowGo (B : Nat) (σ : Nat → St) (r : Row) (s s' : St) : Prop where
  fine : Fine r s
  fall : ∀ z, fallS r s = some z → s' = z
  jmp : r.isJmp = true → σ r.mark = goalS r s
  flt : r.isFaulty = true → ∀ x g, s.g = x :: g → σ x.1 = ⟨x.2 + 1, g⟩ ∧ x.1 < B
  lab : r.isLabel = true → σ r.mark = s
def Seq (B : Nat) (σ : Nat → St) : St → List Row → St → Prop
  | s, [], s' => s = s'
  | s, r :: rs, s' => ∃ z, RowGo B σ r s z ∧ Seq B σ z rs s'
theorem Seq.append {B : Nat} {σ : Nat → St} : ∀ {xs ys : List Row} {s s1 s2 : St}, Seq B σ s xs s1 → Seq B σ s1 ys s2 → Seq B σ s (xs ++ ys) s2
  | [], ys, s, s1, s2, h, k => by
    have h : s = s1 := h
    rw [h]
    exact k
  | r :: xs, ys, s, s1, s2, ⟨z, h1, h2⟩, k => ⟨z, h1, Seq.append h2 k⟩
theorem Seq.states {B : Nat} {σ : Nat → St} : ∀ {xs : List Row} {s s' : St}, Seq B σ s xs s' → ∃ ss : Nat → St, ss 0 = s ∧ ∀ i r, xs[i]? = some r → RowGo B σ r (ss i) (ss (i + 1))
  | [], s, s', h => ⟨fun _ => s, rfl, fun i r h => by cases h⟩
  | r :: xs, s, s', ⟨z, h1, h2⟩ => by
    obtain ⟨ss, e1, e2⟩ := Seq.states h2
    refine ⟨fun i => match i with
      | 0 => s
      | i + 1 => ss i, rfl, fun i r' h => ?_⟩
    cases i with
    | zero =>
      cases h
      show RowGo B σ r s (ss 0)
      rw [e1]
      exact h1
    | succ i => exact e2 i r' (by simpa using h)
theorem lacks_nil {n : Nat} {w : List (Nat × Nat)} {r : Row} {i : Nat} {s : St} {l : List (Nat × St)} (h : allNext w r i s = some l) (f : Fine r s) (he : ∀ q, q ∈ l → q.1 ≠ n) : lacks n w r i s = some [] := by
  unfold lacks
  rw [h]
  have h1 : ¬ s.d < (r.takes : Int) := by have := f.takes; omega
  have h2 : (r.isEndtry && s.g.isEmpty) = false := by
    cases e : r.isEndtry with
    | false => rfl
    | true =>
      have := f.guard e
      cases hg : s.g with
      | nil => exact (this hg).elim
      | cons x g => rfl
  have h3 := f.beneath
  have h4 : l.any (fun p => decide (p.1 = n)) = false := by
    rw [List.any_eq_false]
    intro q hq
    rw [decide_eq_false (he q hq)]
    exact Bool.false_ne_true
  show some (_ ++ _ ++ _ ++ _) = _
  rw [if_neg h1, h2, h3, h4]
  rfl
theorem Seq.fitsE {c : Code} {B : Nat} {σ : Nat → St} {s' : St} (ok : CodeOk c) (hB : ∀ m, m < B → ∃ l, Row.label m l ∈ c) (h : Seq B σ ⟨0, []⟩ c s') (hl : ∃ o l, c.getLast? = some (.bare o l) ∧ (o = .ret ∨ o = .rais)) : ∃ t, Fits c t := by
  obtain ⟨ss, e0, es⟩ := h.states
  have g := ok.good
  have lab : ∀ m p, (whereL c).lookup m = some p → p < c.length ∧ ss p = σ m := fun m p hp => by
    obtain ⟨l, hpl⟩ := where_some hp
    exact ⟨where_lt hp, ((es p _ hpl).lab rfl).symm⟩
  refine ⟨fun i => if i < c.length then some (ss i) else none, ?_, fun i s hi => ?_⟩
  · have := ok.pos
    show (if 0 < c.length then some (ss 0) else none) = _
    rw [if_pos (by omega), e0]
  · have hi : (if i < c.length then some (ss i) else none) = some s := hi
    split at hi
    · rename_i hlt
      cases hi
      obtain ⟨r, hr⟩ : ∃ r, c[i]? = some r := ⟨_, List.getElem?_eq_getElem hlt⟩
      have R := es i r hr
      have tt : ∀ p, p < c.length → (if p < c.length then some (ss p) else none) = some (ss p) := fun p hp => if_pos hp
      have nxt : ∀ z, fallS r (ss i) = some z → i + 1 < c.length ∧ ss (i + 1) = z := fun z hz => by
        refine ⟨?_, R.fall z hz⟩
        by_cases he : i + 1 < c.length
        · exact he
        · obtain ⟨o, l, hlast, ho⟩ := hl
          rw [List.getLast?_eq_getElem?, show c.length - 1 = i by omega, hr] at hlast
          cases hlast
          rcases ho with rfl | rfl <;> cases hz
      -- without faults
      have plain : ∃ l, plainNext (whereL c) r i (ss i) = some l ∧ ∀ q, q ∈ l → q.1 < c.length ∧ ss q.1 = q.2 := by
        unfold plainNext
        split
        · rename_i hb
          obtain ⟨p, hp, _⟩ := g.at hr (by cases r <;> first | rfl | cases hb)
          rw [hp]
          refine ⟨_, rfl, fun q hq => ?_⟩
          rw [List.mem_singleton.mp hq]
          obtain ⟨y1, y2⟩ := lab _ _ hp
          refine ⟨y1, y2.trans ((R.jmp (by cases r <;> first | rfl | cases hb)).trans ?_)⟩
          unfold goalS
          rw [if_pos hb]
        · rename_i hn1
          split
          · rename_i hb
            obtain ⟨p, hp, _⟩ := g.at hr (by cases r <;> first | rfl | cases hb)
            rw [hp]
            refine ⟨_, rfl, fun q hq => ?_⟩
            rcases List.mem_cons.mp hq with rfl | hq
            · exact nxt _ (by unfold fallS; rw [if_neg hn1, if_pos hb])
            · rw [List.mem_singleton.mp hq]
              obtain ⟨y1, y2⟩ := lab _ _ hp
              refine ⟨y1, y2.trans ((R.jmp (by cases r <;> first | rfl | cases hb)).trans ?_)⟩
              unfold goalS
              rw [if_neg hn1]
          · rename_i hn2
            split
            · rename_i hb
              refine ⟨_, rfl, fun q hq => ?_⟩
              rw [List.mem_singleton.mp hq]
              exact nxt _ (by unfold fallS; rw [if_neg hn1, if_neg hn2, if_pos hb])
            · rename_i hn3
              split
              · rename_i hb
                refine ⟨_, rfl, fun q hq => ?_⟩
                rw [List.mem_singleton.mp hq]
                exact nxt _ (by unfold fallS; rw [if_neg hn1, if_neg hn2, if_neg hn3, if_pos hb])
              · rename_i hn4
                split
                · exact ⟨_, rfl, fun q hq => by cases hq⟩
                · rename_i hn5
                  refine ⟨_, rfl, fun q hq => ?_⟩
                  rw [List.mem_singleton.mp hq]
                  exact nxt _ (by unfold fallS; rw [if_neg hn1, if_neg hn2, if_neg hn3, if_neg hn4, if_neg hn5])
      obtain ⟨l0, p1, p2⟩ := plain
      have all : ∃ l, allNext (whereL c) r i (ss i) = some l ∧ ∀ q, q ∈ l → q.1 < c.length ∧ ss q.1 = q.2 := by
        unfold allNext
        rw [p1]
        cases hg : (ss i).g with
        | nil => exact ⟨l0, rfl, p2⟩
        | cons x gs =>
          show ∃ l, (if r.isFaulty = true then ((whereL c).lookup x.1).map fun p => l0 ++ [(p, ⟨x.2 + 1, gs⟩)] else some l0) = some l ∧ _
          split
          · rename_i hf
            obtain ⟨f1, f2⟩ := R.flt hf x gs hg
            obtain ⟨lb, hlb⟩ := hB x.1 f2
            obtain ⟨j, hj⟩ := List.mem_iff_getElem?.mp hlb
            obtain ⟨p, hp⟩ := Option.isSome_iff_exists.mp (where_has hj)
            rw [hp]
            refine ⟨_, rfl, fun q hq => ?_⟩
            rcases List.mem_append.mp hq with hq | hq
            · exact p2 q hq
            · rw [List.mem_singleton.mp hq]
              obtain ⟨y1, y2⟩ := lab _ _ hp
              exact ⟨y1, y2.trans f1⟩
          · exact ⟨l0, rfl, p2⟩
      obtain ⟨l, a1, a2⟩ := all
      refine ⟨r, l, hr, lacks_nil a1 R.fine fun q hq e => ?_, a1, fun q hq => ?_⟩
      · have := (a2 q hq).1
        omega
      · obtain ⟨y1, y2⟩ := a2 q hq
        show (if q.1 < c.length then some (ss q.1) else none) = _
        rw [if_pos y1, y2]
    · cases hi
theorem Seq.fits {c : Code} {B : Nat} {σ : Nat → St} {s' : St} (ok : CodeOk c) (hB : ∀ m, m < B → ∃ l, Row.label m l ∈ c) (h : Seq B σ ⟨0, []⟩ c s') (hl : ∃ l, c.getLast? = some (.bare .ret l)) : ∃ t, Fits c t := by
  obtain ⟨l, e⟩ := hl
  exact h.fitsE ok hB ⟨.ret, l, e, .inl rfl⟩
def labsOf (F : List Row) : List Nat := (F.filter Row.isLabel).map Row.mark
theorem labs_app {F G : List Row} : labsOf (F ++ G) = labsOf F ++ labsOf G := by
  unfold labsOf
  rw [List.filter_append, List.map_append]
theorem labs_no {r : Row} {F : List Row} (h : r.isLabel = false) : labsOf (r :: F) = labsOf F := by
  unfold labsOf
  rw [List.filter_cons_of_neg (by rw [h]; exact Bool.false_ne_true)]
structure RwOk (r : Row) : Prop where
  fits : r.fits
  ok : r.line ≤ 9999 → (r.isHop = true ∨ r.isLabel = true → r.mark ≤ 99) → r.ok = true
  vals : ∀ v l, r = .push v l → v.good
structure FragP (F : List Row) (a b : Nat) (n k : Int) : Prop where
  le : a ≤ b
  labs : (labsOf F).Nodup
  lab : ∀ m, m ∈ labsOf F ↔ a ≤ m ∧ m < b
  hop : ∀ r, r ∈ F → r.isHop = true → a ≤ r.mark ∧ r.mark < b
  rows : ∀ r, r ∈ F → RwOk r
  go : ∀ (s : St) (σ0 : Nat → St), Stk (s.d - n) s.g → (∀ x, x ∈ s.g → x.1 < a) → (∀ x g, s.g = x :: g → σ0 x.1 = ⟨x.2 + 1, g⟩) →
    ∃ σ : Nat → St, (∀ m, m < a → σ m = σ0 m) ∧ ∀ (B : Nat) (σ' : Nat → St), b ≤ B → (∀ m, m < b → σ' m = σ m) → Seq B σ' s F ⟨s.d + k, s.g⟩
theorem FragP.nil {a : Nat} {n : Int} : FragP [] a a n 0 := by
  refine ⟨Nat.le_refl _, .nil, fun m => ⟨fun h => (by cases h), fun h => by omega⟩, fun r h => (by cases h), fun r h => (by cases h), fun s σ0 _ _ _ => ⟨σ0, fun _ _ => rfl, fun B σ' _ _ => ?_⟩⟩
  show s = (⟨s.d + 0, s.g⟩ : St)
  rw [Int.add_zero]
theorem FragP.append {F G : List Row} {a b c : Nat} {n k n2 j m : Int} (h : FragP F a b n k) (h2 : FragP G b c n2 j) (hm : n ≤ m := by omega) (hm2 : n2 ≤ m + k := by omega) : FragP (F ++ G) a c m (k + j) := by
  have l1 := h.le
  have l2 := h2.le
  refine ⟨Nat.le_trans l1 l2, ?_, fun m => ?_, fun r hr hh => ?_, fun r hr => ?_, fun s σ0 s1 s2 s3 => ?_⟩
  · rw [labs_app]
    refine List.nodup_append.mpr ⟨h.labs, h2.labs, fun x hx y hy e => ?_⟩
    have := (h.lab x).mp hx
    have := (h2.lab y).mp hy
    omega
  · rw [labs_app, List.mem_append, h.lab, h2.lab]
    omega
  · rcases List.mem_append.mp hr with hr | hr
    · have := h.hop r hr hh
      omega
    · have := h2.hop r hr hh
      omega
  · rcases List.mem_append.mp hr with hr | hr
    · exact h.rows r hr
    · exact h2.rows r hr
  · obtain ⟨σ1, a1, a2⟩ := h.go s σ0 (s1.up (by omega)) s2 s3
    obtain ⟨σ2, b1, b2⟩ := h2.go ⟨s.d + k, s.g⟩ σ1 (s1.up (by show s.d - m ≤ s.d + k - n2; omega)) (fun x hx => Nat.lt_of_lt_of_le (s2 x hx) l1) (fun x g hx => by
      rw [a1 x.1 (s2 x (by have hx : s.g = x :: g := hx; rw [hx]; exact List.mem_cons_self))]
      exact s3 x g hx)
    refine ⟨σ2, fun m hm => by rw [b1 m (by omega), a1 m hm], fun B σ' hB hσ => ?_⟩
    have e := a2 B σ' (by omega) fun m hm => by rw [hσ m (by omega), b1 m hm]
    have e2 := b2 B σ' hB hσ
    have e3 := e.append e2
    rw [show s.d + (k + j) = s.d + k + j by omega]
    exact e3
theorem FragP.to {F : List Row} {a b : Nat} {n k n' k' : Int} (h : FragP F a b n k) (hn : n ≤ n' := by omega) (hk : k = k' := by omega) : FragP F a b n' k' := by
  subst hk
  exact ⟨h.le, h.labs, h.lab, h.hop, h.rows, fun s σ0 s1 => h.go s σ0 (s1.up (by omega))⟩
theorem fine_row {r : Row} {s : St} (ht : Stk (s.d - r.takes) s.g) (he : r.isEndtry = false) : Fine r s := by
  refine ⟨?_, fun e => ?_, ?_⟩
  · have := ht.pos
    omega
  · rw [he] at e
    cases e
  · unfold beneath
    cases hg : s.g with
    | nil => rfl
    | cons x g =>
      rw [hg] at ht
      have h1 : x.2 ≤ s.d - r.takes := ht.1
      dsimp only
      rw [decide_eq_false (show ¬ s.d - r.takes < x.2 by omega), Bool.and_false, Bool.and_false]
theorem FragP.one {r : Row} {a : Nat} {k : Int} (h1 : r.isHop = false) (h2 : r.isLabel = false) (h3 : r.isEndtry = false) (hk : r.isEnd = true ∨ k = r.grows) (hf : r.fits) (ho : r.line ≤ 9999 → r.ok = true) (hv : ∀ v l, r = .push v l → v.good) : FragP [r] a a r.takes k := by
  have fl : labsOf [r] = [] := labs_no h2
  refine ⟨Nat.le_refl _, by rw [fl]; exact .nil, fun m => by rw [fl]; exact ⟨fun h => (by cases h), fun h => by omega⟩, fun r' hr hh => ?_, fun r' hr => ?_, fun s σ0 s1 s2 s3 => ⟨σ0, fun _ _ => rfl, fun B σ' hB hσ => ⟨⟨s.d + k, s.g⟩, ⟨fine_row s1 h3, fun z hz => ?_, fun hj => ?_, fun _ x g hx => ?_, fun hl => ?_⟩, rfl⟩⟩⟩
  · rw [List.mem_singleton.mp hr, h1] at hh
    cases hh
  · rw [List.mem_singleton.mp hr]
    exact ⟨hf, fun h _ => ho h, hv⟩
  · have e1 : r.isJump = false := by cases r <;> first | rfl | (cases h1; done)
    have e2 : r.isBranch = false := by cases r <;> first | rfl | (cases h1; done)
    have e3 : r.isTri = false := by cases r <;> first | rfl | (cases h1; done)
    unfold fallS at hz
    rw [e1, e2, e3, h3] at hz
    simp only [Bool.false_eq_true, if_false] at hz
    split at hz
    · cases hz
    · rename_i he
      cases hz
      rcases hk with hk | hk
      · exact (he hk).elim
      · rw [hk]
  · exfalso
    cases r <;> first | (cases h1; done) | (cases hj; done)
  · have hm := s2 x (by rw [hx]; exact List.mem_cons_self)
    refine ⟨(hσ x.1 hm).trans (s3 x g hx), by omega⟩
  · rw [h2] at hl
    cases hl
section
variable {B : Nat} {σ : Nat → St} {s z : St} {m l : Nat}
end
theorem RwOk.jmp {o : JOp} {m l : Nat} : RwOk (.jmp o m l) := ⟨trivial, fun h1 h2 => by
  show (decide (l ≤ 9999) && decide (m ≤ 99)) = true
  rw [decide_eq_true (show l ≤ 9999 from h1), decide_eq_true (show m ≤ 99 from h2 (.inl rfl))]
  rfl, fun v l h => by cases h⟩
theorem RwOk.tri {m l : Nat} : RwOk (.tri m l) := ⟨trivial, fun h1 h2 => by
  show (decide (l ≤ 9999) && decide (m ≤ 99)) = true
  rw [decide_eq_true (show l ≤ 9999 from h1), decide_eq_true (show m ≤ 99 from h2 (.inl rfl))]
  rfl, fun v l h => by cases h⟩
theorem RwOk.label {m l : Nat} : RwOk (.label m l) := ⟨trivial, fun h1 h2 => by
  show (decide (l ≤ 9999) && decide (m ≤ 99)) = true
  rw [decide_eq_true (show l ≤ 9999 from h1), decide_eq_true (show m ≤ 99 from h2 (.inr rfl))]
  rfl, fun v l h => by cases h⟩
theorem RwOk.endtry {l : Nat} : RwOk (.endtry l) := ⟨trivial, fun h1 _ => decide_eq_true (show l ≤ 9999 from h1), fun v l h => by cases h⟩
theorem Seq.one {B : Nat} {σ : Nat → St} {r : Row} {s z : St} (h : RowGo B σ r s z) : Seq B σ s [r] z := ⟨z, h, rfl⟩
abbrev rwD (rows : List Row) : D := .list (rows.map Row.d)
abbrev mkD (b : Nat) : D := .list ((List.range b).map dN)
theorem draw_eq {ns : List Int} {q many : Nat} {t : D} (hT : Town ns q t) (hq : q < 1000000) (hm : 0 < many) (hM : many < 1000000) : ∃ (r : Nat) (t' : D), f__law_draw [some (dL ns), some t, some (dN many)] = some (dN r, [none, some t', none]) ∧ r < many ∧ Town ns (q + 1) t' := by
  obtain ⟨d, o, e, r, t', e1, h0, h1, e2, h2⟩ := draw_ok hT hq (many := many) (by omega) (by omega)
  refine ⟨r.toNat, t', ?_, by omega, h2⟩
  have e : f__law_draw [some (dL ns), some t, some (dI many)] = some (d, o) := e
  rw [show (dN many : D) = dI many from rfl, e, e1, e2]
  show some (PyData.int r, _) = some (PyData.int (r.toNat : Int), _)
  rw [Int.toNat_of_nonneg h0]
def mv : Nat → Nat
  | 0 => 2
  | d + 1 => 2 * mv d + 40
def smallNames : List Str := ["a", "b", "c"]
def kRng1 (p : List D × En) : Option (List D × En) := match p.1 with
  | [.int j] => if -(2 ^ 62) ≤ j ∧ j < 2 ^ 62 then some (dRng 0 j.toNat, p.2) else none
  | _ => none
theorem v_rng1 {ma : MA} {ρ : En} : mRng1 ma ρ = (ma ρ).bind kRng1 := rfl
theorem kRng1_i {n : Int} {ρ : En} : kRng1 ([.int n], ρ) = if -(2 ^ 62) ≤ n ∧ n < 2 ^ 62 then some (dRng 0 n.toNat, ρ) else none := rfl
def kPar (i j : Nat) (p : List D × En) : Option (Fl × En) := match p.1 with
  | [d1, d2] => some (.nx, (p.2.set i (some d1)).set j (some d2))
  | _ => none
theorem v_par {i j : Nat} {ma : MA} {ρ : En} : mPar i j ma ρ = (ma ρ).bind (kPar i j) := rfl
theorem kPar_2 {i j : Nat} {d e : D} {ρ : En} : kPar i j ([d, e], ρ) = some (.nx, (ρ.set i (some d)).set j (some e)) := rfl
local macro_rules | `(tactic| exists $es,*) => `(tactic| simp -implicitDefEqProofs only [v_var, v_mv, v_br, v_C, v_aNil, v_aCons, v_op, v_m1, v_m2, v_tr, v_and, v_or, v_not, v_andV, v_orV, v_notV, v_if, v_tup, v_lst, v_seq, v_skip, v_break, v_cont, v_drop, v_ret, v_ite, v_set, v_fz, v_th, v_asg, v_aug, v_call, v_fun, v_mut, v_no, v_pt, v_sl, v_chain, v_itL, v_for, v_lc, v_itU, v_it2, v_dc, v_callM, v_met, v_entM, v_outM, kMet_rt, kMet_nx, v_gIx, kIx_i, List.take_succ_cons, List.take_zero, List.drop_succ_cons, List.drop_zero, v_putU, v_disp, v_pCons, v_pNil,
  kTr_b, kSeq_nx, kSeq_rt, kSeq_bk, kSeq_ct, kFun_rt, kFun_nx, kPt_i, kSl_1, kCh_i, kCh2_i, kItL_l, kItU_l, kItU_t, kItU_s, Option.bind_some, Option.bind_none, at_zero, at_succ, at_nil, fill_nil, fill_fz, fill_ow, fill_br, Option.map_some, List.set_cons_zero, List.set_cons_succ, List.set_nil, List.map_cons, List.map_nil, List.cons_append, List.nil_append, List.append_nil, List.replicate_succ, List.replicate_zero, putB_nil, putB_br, putB_fz, putB_ow, outE_nil, outE_fz, outE_io, mgN_e, mgNil_e, mgCons_e, mgT_e, mgL_e, List.length_cons, List.length_nil, if_true, if_false, reduceIte, Bool.false_eq_true, Bool.not_true, Bool.not_false, decide_true, decide_false, dSub_i, dAdd_i, dAddU_i, dLt_i, dLe_i, dGt_i, dGe_i, dNeg_i, row_0, row_1, row_2, row_3, st_0, st_1, st_2, o_jump, o_branch, o_if, o_try, o_endtry, o_end, o_ncopy, o_faulty, o_counted, o_nm, o_label, o_hop, o_push, takes_ok, grows_ok, ix_gs, sl_gs, dEq_gs, dNe_gs, ix_wh, isTy_l, isTup_row, len_row, dEnum_map, Bool.true_and, Bool.false_and, Bool.and_true, Bool.and_false, v_rng1, kRng1_i, v_par, kPar_2, dEqU_i, $[$es:term],*])
theorem for_inv {j : Nat} {P : Nat → En → Prop} {g : MG} {b : MS} (hs : ∀ (i : Nat) ρ, i < j → P i ρ → ∃ ρ1 ρ2, g (dN i) ρ = some ρ1 ∧ b ρ1 = some (.nx, ρ2) ∧ P (i + 1) ρ2) {ρ : En} (h : P 0 ρ) : ∃ ρ', mForL (dRng 0 j) g b ρ = some (.nx, ρ') ∧ P j ρ' := by
  have key : ∀ (k i : Nat) ρ, i + k = j → P i ρ → ∃ ρ', mForL ((List.range' i k).map fun (x : Nat) => PyData.int (0 + (x : Int))) g b ρ = some (.nx, ρ') ∧ P j ρ' := by
    intro k
    induction k with
    | zero => exact fun i ρ e p => ⟨ρ, rfl, by rw [← e]; exact p⟩
    | succ k ih =>
      intro i ρ e p
      obtain ⟨ρ1, ρ2, e1, e2, e3⟩ := hs i ρ (by omega) p
      obtain ⟨ρ', f1, f2⟩ := ih (i + 1) ρ2 (by omega) e3
      refine ⟨ρ', ?_, f2⟩
      rw [List.range'_succ, List.map_cons, Int.zero_add]
      show ((g (dN i) ρ).bind fun _ => _) = _
      rw [e1]
      show ((b ρ1).bind fun _ => _) = _
      rw [e2]
      exact f1
  have := key j 0 ρ (by omega) h
  rwa [← List.range_eq_range'] at this
def Num (rows : List Row) (b N : Nat) (F : List Row) (c : Nat) : Prop := F.length ≤ N ∧ c ≤ b + N ∧ ∀ r, r ∈ F → r.line ≤ 10 + (rows.length + F.length)
theorem Num.nil {rows : List Row} {b : Nat} : Num rows b 0 [] b := ⟨Nat.le_refl _, Nat.le_refl _, fun r h => by cases h⟩
theorem Num.append {rows F G : List Row} {a b c N M : Nat} (h : Num rows a N F b) (k : Num (rows ++ F) b M G c) : Num rows a (N + M) (F ++ G) c := by
  obtain ⟨h1, h2, h3⟩ := h
  obtain ⟨k1, k2, k3⟩ := k
  refine ⟨by rw [List.length_append]; omega, by omega, fun r hr => ?_⟩
  rw [List.length_append]
  rcases List.mem_append.mp hr with hr | hr
  · have := h3 r hr
    omega
  · have := k3 r hr
    rw [List.length_append] at this
    omega
theorem Num.one {rows : List Row} {b : Nat} {r : Row} (h : r.line = 10 + rows.length / 2) : Num rows b 1 [r] b := ⟨Nat.le_refl _, by omega, fun x hx => by
  rw [List.mem_singleton.mp hx, h]
  omega⟩
theorem Num.mark {rows F : List Row} {b c N : Nat} (h : Num rows (b + 1) N F c) : Num rows b (N + 1) F c := ⟨by have := h.1; omega, by have := h.2.1; omega, h.2.2⟩
theorem Num.to {rows F : List Row} {b c N M : Nat} (h : Num rows b N F c) (hM : N ≤ M) : Num rows b M F c := ⟨by have := h.1; omega, by have := h.2.1; omega, h.2.2⟩
abbrev ln (R : List Row) : Nat := 10 + R.length / 2
theorem draw_i {ns : List Int} {q : Nat} {t : D} (m : Int) (hT : Town ns q t) (hq : q < 1000000) (hm : 0 < m ∧ m < 1000000) : ∃ (r : Nat) (t' : D), f__law_draw [some (dL ns), some t, some (.int m)] = some (dN r, [none, some t', none]) ∧ (r : Int) < m ∧ Town ns (q + 1) t' := by
  obtain ⟨r, t', e, h1, h2⟩ := draw_eq hT hq (many := m.toNat) (by omega) (by omega)
  refine ⟨r, t', ?_, by omega, h2⟩
  rw [← e, show (dN m.toNat : D) = .int m by show PyData.int (m.toNat : Int) = _; rw [Int.toNat_of_nonneg (by omega)]]
def GenF (f : En → Option (D × En)) (d : Int) (N M : Nat) (n k : Int) : Prop := ∀ (ns : List Int) (t : D) (q : Nat) (rows : List Row) (b : Nat), Town ns q t → q + M < 1000000 → rows.length + N < 1000000 → b + N < 1000000 →
  ∃ (t' : D) (F : List Row) (c : Nat), f [some (dL ns), some t, some (rwD rows), some (mkD b), some (.int d)] = some (.none, [none, some t', some (rwD (rows ++ F)), some (mkD c), none]) ∧ Town ns (q + M) t' ∧ FragP F b c n k ∧ Num rows b N F c
local macro_rules | `(tactic| exists $es,*) => `(tactic| simp -implicitDefEqProofs only [v_var, v_mv, v_br, v_C, v_aNil, v_aCons, v_op, v_m1, v_m2, v_tr, v_and, v_or, v_not, v_andV, v_orV, v_notV, v_if, v_tup, v_lst, v_seq, v_skip, v_break, v_cont, v_drop, v_ret, v_ite, v_set, v_fz, v_th, v_asg, v_aug, v_call, v_fun, v_mut, v_no, v_pt, v_sl, v_chain, v_itL, v_for, v_lc, v_itU, v_it2, v_dc, v_callM, v_met, v_entM, v_outM, kMet_rt, kMet_nx, v_gIx, kIx_i, List.take_succ_cons, List.take_zero, List.drop_succ_cons, List.drop_zero, v_putU, v_disp, v_pCons, v_pNil,
  kTr_b, kSeq_nx, kSeq_rt, kSeq_bk, kSeq_ct, kFun_rt, kFun_nx, kPt_i, kSl_1, kCh_i, kCh2_i, kItL_l, kItU_l, kItU_t, kItU_s, Option.bind_some, Option.bind_none, at_zero, at_succ, at_nil, fill_nil, fill_fz, fill_ow, fill_br, Option.map_some, List.set_cons_zero, List.set_cons_succ, List.set_nil, List.map_cons, List.map_nil, List.cons_append, List.nil_append, List.append_nil, List.replicate_succ, List.replicate_zero, putB_nil, putB_br, putB_fz, putB_ow, outE_nil, outE_fz, outE_io, mgN_e, mgNil_e, mgCons_e, mgT_e, mgL_e, List.length_cons, List.length_nil, if_true, if_false, reduceIte, Bool.false_eq_true, Bool.not_true, Bool.not_false, decide_true, decide_false, dSub_i, dAdd_i, dAddU_i, dLt_i, dLe_i, dGt_i, dGe_i, dNeg_i, row_0, row_1, row_2, row_3, st_0, st_1, st_2, o_jump, o_branch, o_if, o_try, o_endtry, o_end, o_ncopy, o_faulty, o_counted, o_nm, o_label, o_hop, o_push, takes_ok, grows_ok, ix_gs, sl_gs, dEq_gs, dNe_gs, ix_wh, isTy_l, isTup_row, len_row, dEnum_map, Bool.true_and, Bool.false_and, Bool.and_true, Bool.and_false, v_rng1, v_par, kPar_2, dEqU_i, $[$es:term],*])
structure MvI (ns : List Int) (rows : List Row) (b d many q N : Nat) (k : Int) (ρ : En) : Prop where
  ex : ∃ t F c o, ρ = [some (dL ns), some t, some (rwD (rows ++ F)), some (mkD c), some (dN d), some (dN many), o] ∧ Town ns q t ∧ FragP F b c 0 k ∧ Num rows b N F c
theorem rng_ok {j : Nat} (h : j < 1000000) {ρ : En} : kRng1 ([dN j], ρ) = some (dRng 0 j, ρ) := by
  unfold kRng1
  dsimp only
  rw [p62]
  exact if_pos ⟨by omega, by omega⟩
theorem GenF.to {f : En → Option (D × En)} {d : Int} {N M N' M' : Nat} {n k : Int} (h : GenF f d N M n k) (hN : N ≤ N') (hM : M ≤ M') : GenF f d N' M' n k := by
  intro ns t q rows b hT hq hr hb
  obtain ⟨t', F, c, e, h1, h2, h3⟩ := h ns t q rows b hT (by omega) (by omega) (by omega)
  exact ⟨t', F, c, e, h1.up (by omega), h2, h3.to hN⟩
section
variable {rd rc rr rt : En → Option (D × En)} {d : Int} {N M : Nat}
end
structure Snd (c : Code) : Prop where
  snd : Sound c
  ex : ∃ t, explored c = some (.inl t) ∧ Least c t
structure CdI (ns : List Int) (q N : Nat) (m : D) (ρ : En) : Prop where
  ex : ∃ t F c o, ρ = [some (dL ns), some t, some m, some (rwD F), some (mkD c), o] ∧ Town ns q t ∧ FragP F 0 c 0 0 ∧ Num [] 0 N F c
structure GvI (ns : List Int) (q : Nat) (r : List D) (ρ : En) : Prop where
  ex : ∃ t w o, ρ = [some (dL ns), some t, some (hD w), o] ∧ Town ns (q + 6 - 2 * r.length) t ∧ r.length ≤ 3 ∧ w.length + r.length ≤ 3 ∧ (∀ d, d ∈ r → ∃ x : Str, x ∈ smallNames ∧ d = .str x) ∧ ∀ p, p ∈ w → p.1 ∈ smallNames ∧ p.2.good
structure Shw (n L : Nat) (d : D) : Prop where
  able : d.showable = true
  nod : d.hasDict = false
  dep : d.depth ≤ n
  txt : PyData.strOk d.shown = true
  len : d.shown.length ≤ L
theorem Shw.up {n m L M : Nat} {d : D} (h : Shw n L d) (hn : n ≤ m) (hL : L ≤ M) : Shw m M d := ⟨h.able, h.nod, Nat.le_trans h.dep hn, h.txt, Nat.le_trans h.len hL⟩
theorem Shw.ok {n L : Nat} {d : D} (h : Shw n L d) (hn : n ≤ 60 := by decide) (hL : L ≤ 100000 := by decide) : showOk d = true := by
  unfold showOk
  rw [h.able, h.nod, decide_eq_true (Nat.le_trans h.dep hn), decide_eq_true (Nat.le_trans h.len hL)]
  rfl
theorem Shw.int {i : Int} (h : -BIG ≤ i ∧ i ≤ BIG) : Shw 0 20 (.int i) := by
  unfold BIG at h
  refine ⟨decide_eq_true ?_, rfl, Nat.le_refl _, strOk_ofString, ?_⟩
  · by_cases h0 : i.natAbs = 0
    · rw [h0]
      decide
    · have : i.natAbs < 2 ^ 64 := by omega
      have := (Nat.log2_lt h0).mpr this
      omega
  · show (Str.ofString (toString i)).length ≤ 20
    have e := int_text_length_le10 (k := 19) (a := i) (by decide) (by omega)
    rw [PySem.ofString_length]
    exact e
theorem Shw.bool {b : Bool} : Shw 0 20 (.bool b) := by
  refine ⟨rfl, rfl, Nat.le_refl _, ?_, ?_⟩ <;> cases b <;> decide +kernel
theorem Shw.none : Shw 0 20 .none := ⟨rfl, rfl, Nat.le_refl _, by decide +kernel, by decide +kernel⟩
theorem Shw.str {x : Str} (h : PyData.strOk (reprText x) = true ∧ (reprText x).length ≤ 20) : Shw 0 20 (.str x) := ⟨rfl, rfl, Nat.le_refl _, h.1, h.2⟩
theorem Shw.kind {x : Str} (h : x ∈ kinds) : Shw 0 20 (.str x) := by
  have : ∀ x, x ∈ kinds → PyData.strOk (reprText x) = true ∧ (reprText x).length ≤ 20 := by decide +kernel
  exact Shw.str (this x h)
theorem Shw.val {v : Val} (h : v.good) : Shw 0 20 v.d := by
  cases v with
  | non => exact .none
  | bool b => exact .bool
  | int i => exact .int h
  | str x => exact .kind h
theorem shw_all {n L : Nat} : ∀ {ds : List D}, (∀ d, d ∈ ds → Shw n L d) → PyData.showableAll ds = true ∧ PyData.hasDictAll ds = false ∧ PyData.depthAll ds ≤ n ∧ (∀ t, t ∈ PyData.shownAll ds → PyData.strOk t = true) ∧ ((PyData.shownAll ds).map (·.length)).sum ≤ ds.length * L ∧ (PyData.shownAll ds).length = ds.length
  | [], _ => ⟨rfl, rfl, Nat.zero_le _, (fun t h => by have h : t ∈ ([] : List Str) := h; cases h), Nat.zero_le _, rfl⟩
  | d :: ds, h => by
    obtain ⟨a, b, c, e, f, g⟩ := shw_all fun d m => h d (List.mem_cons_of_mem _ m)
    have z := h d List.mem_cons_self
    refine ⟨?_, ?_, ?_, fun t ht => ?_, ?_, ?_⟩
    · rw [PyData.showableAll, z.able, a]
      rfl
    · rw [PyData.hasDictAll, z.nod, b]
      rfl
    · rw [PyData.depthAll]
      exact Nat.max_le.mpr ⟨z.dep, c⟩
    · rw [PyData.shownAll] at ht
      rcases List.mem_cons.mp ht with rfl | ht
      · exact z.txt
      · exact e t ht
    · rw [PyData.shownAll, List.map_cons, List.sum_cons, List.length_cons, Nat.succ_mul]
      have := z.len
      omega
    · rw [PyData.shownAll, List.length_cons, List.length_cons, g]
theorem strOk_textFrom : ∀ {ts : List Str} {k : Nat} {acc : Str}, PyData.strOk acc = true → (∀ t, t ∈ ts → PyData.strOk t = true) → PyData.strOk (textFrom k acc ts) = true
  | [], k, acc, h, _ => h
  | t :: ts, k, acc, h, hs => by
    refine strOk_textFrom (k := k + 1) (strOk_app (strOk_app h ?_) (hs t (.head _))) fun t' m => hs t' (.tail _ m)
    exact strOk_ofString
theorem strOk_join {sep : Str} (hp : PyData.strOk sep = true) : ∀ {ts : List Str}, (∀ t, t ∈ ts → PyData.strOk t = true) → PyData.strOk (Str.join sep ts) = true
  | [], _ => by
    show PyData.strOk Str.empty = true
    decide +kernel
  | [x], h => h x (.head _)
  | x :: y :: r, h => strOk_app (strOk_app (h x (.head _)) hp) (strOk_join hp fun t m => h t (.tail _ m))
theorem Shw.list {n L : Nat} {ds : List D} (h : ∀ d, d ∈ ds → Shw n L d) : Shw (n + 1) (ds.length * (L + 2) + 3) (.list ds) := by
  obtain ⟨a, b, c, e, f, g⟩ := shw_all h
  refine ⟨by rw [PyData.showable]; exact a, by rw [PyData.hasDict]; exact b, by rw [PyData.depth]; omega, ?_, ?_⟩
  · rw [PyData.shown]
    exact strOk_app (strOk_textFrom strOk_ofString e) strOk_ofString
  · rw [PyData.shown]
    have := listText_len_le (PyData.shownAll ds)
    rw [g] at this
    rw [Nat.mul_add]
    omega
theorem Shw.tuple {n L : Nat} {ds : List D} (h : ∀ d, d ∈ ds → Shw n L d) : Shw (n + 1) (ds.length * (L + 2) + 3) (.tuple ds) := by
  obtain ⟨a, b, c, e, f, g⟩ := shw_all h
  refine ⟨by rw [PyData.showable]; exact a, by rw [PyData.hasDict]; exact b, by rw [PyData.depth]; omega, ?_, ?_⟩
  · rw [PyData.shown]
    exact strOk_app (strOk_app strOk_ofString (strOk_join strOk_ofString e)) strOk_ofString
  · rw [PyData.shown]
    have := tupleText_len_le (PyData.shownAll ds)
    rw [g] at this
    rw [Nat.mul_add]
    omega
theorem done_out {c : Code} {r : Row} {m m' : Mc} {k : Option Str} (h : doneM c r m = some (k, m')) : m'.trail = m.trail ∧ ∃ t, m'.out = m.out ++ t := by
  obtain ⟨at_, pile, sh, held, out, trail, last⟩ := m
  cases r with
  | pr o l =>
    match pile, h with
    | b :: a :: p, h =>
      cases h
      exact ⟨rfl, [], (List.append_nil _).symm⟩
  | push v l => cases h; exact ⟨rfl, [], (List.append_nil _).symm⟩
  | copy n l =>
    unfold doneM at h
    dsimp only at h
    split at h
    · obtain ⟨v, h1, h2⟩ := Option.map_eq_some_iff.mp h
      cases h2
      exact ⟨rfl, [], (List.append_nil _).symm⟩
    · cases h
  | swap n l =>
    unfold doneM at h
    dsimp only at h
    split at h
    · obtain ⟨x, h1, h2⟩ := Option.bind_eq_some_iff.mp h
      obtain ⟨y, h3, h4⟩ := Option.map_eq_some_iff.mp h2
      cases h4
      exact ⟨rfl, [], (List.append_nil _).symm⟩
    · cases h
  | tri mk l => cases h
  | label mk l => cases h
  | endtry l => cases h
  | bare o l =>
    cases o <;> (match pile, h with
      | a :: p, h => (cases h; first | exact ⟨rfl, [], (List.append_nil _).symm⟩ | exact ⟨rfl, [a], rfl⟩))
  | nm o n l =>
    cases o with
    | store =>
      match pile, h with
      | a :: p, h => cases h; exact ⟨rfl, [], (List.append_nil _).symm⟩
    | quick => cases h; exact ⟨rfl, [], (List.append_nil _).symm⟩
    | load =>
      unfold doneM at h
      dsimp only at h
      split at h <;> cases h
      · exact ⟨rfl, [], (List.append_nil _).symm⟩
      · exact ⟨rfl, [], (List.append_nil _).symm⟩
    | clear =>
      unfold doneM at h
      dsimp only at h
      split at h <;> cases h
      · exact ⟨rfl, [], (List.append_nil _).symm⟩
      · exact ⟨rfl, [], (List.append_nil _).symm⟩
  | jmp o mk l =>
    by_cases ho : o = .jump
    · subst ho
      obtain ⟨q, h1, h2⟩ := Option.map_eq_some_iff.mp h
      cases h2
      exact ⟨rfl, [], (List.append_nil _).symm⟩
    · have h : (match (generalizing := false) pile with
        | v :: p => ((whereL c).lookup mk).map fun q => (none, Mc.mk (if o.takes v = true then q else at_) (if (o.takes v && !o.isIf) = true then v :: p else p) sh held out trail last)
        | _ => none) = some (k, m') := by
        cases o <;> first | exact h | exact (ho rfl).elim
      match pile, h with
      | v :: p, h =>
        obtain ⟨q, h1, h2⟩ := Option.map_eq_some_iff.mp h
        cases h2
        exact ⟨rfl, [], (List.append_nil _).symm⟩
theorem fault_out {c : Code} {k : Str} {l : Nat} {m m' : Mc} (h : faultM c k l m = some m') : m'.trail = m.trail ∧ m'.out = m.out := by
  obtain ⟨at_, pile, sh, held, out, trail, last⟩ := m
  unfold faultM at h
  cases sh with
  | nil =>
    cases h
    exact ⟨rfl, rfl⟩
  | cons x g =>
    dsimp only at h
    split at h
    · obtain ⟨q, h1, h2⟩ := Option.map_eq_some_iff.mp h
      cases h2
      exact ⟨rfl, rfl⟩
    · cases h
section
variable {α : Type}
def swp (k : Nat) (xs : List α) : List α := match xs[0]?, xs[k]? with
  | some x, some y => (xs.set 0 y).set k x
  | _, _ => xs
def swps (ks : List Nat) (xs : List α) : List α := ks.foldl (fun xs k => swp k xs) xs
def tp (k i : Nat) : Nat := if i = 0 then k else if i = k then 0 else i
theorem swp_of {k : Nat} {xs : List α} {x y : α} (h0 : xs[0]? = some x) (hk : xs[k]? = some y) : swp k xs = (xs.set 0 y).set k x := by
  unfold swp
  rw [h0, hk]
theorem swp_len {k : Nat} {xs : List α} : (swp k xs).length = xs.length := by
  unfold swp
  split
  · rw [List.length_set, List.length_set]
  · rfl
theorem swps_len : ∀ {ks : List Nat} {xs : List α}, (swps ks xs).length = xs.length
  | [], xs => rfl
  | k :: ks, xs => (swps_len (ks := ks) (xs := swp k xs)).trans swp_len
theorem swps_app {a b : List Nat} {xs : List α} : swps (a ++ b) xs = swps b (swps a xs) := List.foldl_append
theorem swp_get {k i : Nat} {xs : List α} (hk : k < xs.length) : (swp k xs)[i]? = xs[tp k i]? := by
  have h0 : 0 < xs.length := by omega
  rw [swp_of (List.getElem?_eq_getElem h0) (List.getElem?_eq_getElem hk)]
  unfold tp
  rw [List.getElem?_set, List.getElem?_set, List.length_set]
  by_cases h : i = 0
  · subst h
    rw [if_pos rfl]
    by_cases h2 : k = 0
    · subst h2
      rw [if_pos rfl, if_pos h0]
      exact (List.getElem?_eq_getElem h0).symm
    · rw [if_neg h2, if_pos rfl, if_pos h0]
      exact (List.getElem?_eq_getElem hk).symm
  · rw [if_neg h]
    by_cases h2 : i = k
    · subst h2
      rw [if_pos rfl, if_pos hk, if_pos rfl]
      exact (List.getElem?_eq_getElem h0).symm
    · rw [if_neg (fun e => h2 e.symm), if_neg (fun e => h e.symm), if_neg h2]
theorem swp_form {x y : α} {u v : List α} : swp (u.length + 1) (x :: (u ++ y :: v)) = y :: (u ++ x :: v) := by
  rw [swp_of (x := x) (y := y) rfl (by
    rw [List.getElem?_cons_succ, List.getElem?_append_right (Nat.le_refl _), Nat.sub_self]
    rfl)]
  rw [List.set_cons_zero, List.set_cons_succ, List.set_append_right _ _ (Nat.le_refl _), Nat.sub_self]
  rfl
theorem swp_split {k : Nat} {xs : List α} (h1 : 1 ≤ k) (hk : k < xs.length) : ∃ x u y v, xs = x :: (u ++ y :: v) ∧ u.length + 1 = k := by
  cases xs with
  | nil => exact absurd hk (Nat.not_lt_zero _)
  | cons x t =>
    have hk : k < t.length + 1 := hk
    refine ⟨x, t.take (k - 1), t[k - 1], t.drop (k - 1 + 1), ?_, ?_⟩
    · rw [← List.drop_eq_getElem_cons (by omega), List.take_append_drop]
    · rw [List.length_take]
      omega
theorem swp_perm {k : Nat} {xs : List α} (h1 : 1 ≤ k) (hk : k < xs.length) : (swp k xs).Perm xs := by
  obtain ⟨x, u, y, v, rfl, rfl⟩ := swp_split h1 hk
  rw [swp_form]
  refine List.Perm.trans ?_ (List.Perm.cons x List.perm_middle.symm)
  exact (List.Perm.cons y List.perm_middle).trans (List.Perm.swap x y _)
theorem swp_swp {k : Nat} {xs : List α} (h1 : 1 ≤ k) (hk : k < xs.length) : swp k (swp k xs) = xs := by
  obtain ⟨x, u, y, v, rfl, rfl⟩ := swp_split h1 hk
  rw [swp_form, swp_form]
theorem swps_perm : ∀ {ks : List Nat} {xs : List α}, (∀ k, k ∈ ks → 1 ≤ k ∧ k < xs.length) → (swps ks xs).Perm xs
  | [], xs, _ => List.Perm.refl _
  | k :: ks, xs, h => by
    have a := h k (.head _)
    exact (swps_perm (ks := ks) (xs := swp k xs) fun k' hk' => by rw [swp_len]; exact h k' (.tail _ hk')).trans (swp_perm a.1 a.2)
end
def Path (o now : List Nat) : Nat → List Nat → Nat → Prop
  | x, [], y => now[x]? = o[y]?
  | x, z :: c, y => now[x]? = o[z]? ∧ Path o now z c y
theorem path_app {o now : List Nat} {y z : Nat} {d : List Nat} : ∀ {c : List Nat} {x : Nat}, Path o now x (c ++ z :: d) y ↔ Path o now x c z ∧ Path o now z d y
  | [], x => Iff.rfl
  | a :: c, x => by
    show (_ ∧ Path o now a (c ++ z :: d) y) ↔ (_ ∧ Path o now a c z) ∧ _
    rw [path_app (c := c), and_assoc]
theorem path_eq {o now now' : List Nat} {y : Nat} : ∀ {c : List Nat} {x x' : Nat}, now'[x']? = now[x]? → (∀ z, z ∈ c → now'[z]? = now[z]?) → Path o now x c y → Path o now' x' c y
  | [], x, x', h, _, p => h.trans p
  | a :: c, x, x', h, k, p => ⟨h.trans p.1, path_eq (k a (.head _)) (fun z hz => k z (.tail _ hz)) p.2⟩
def flat (cs : List (Nat × List Nat)) : List Nat := cs.flatMap fun c => c.1 :: c.2
structure Rep (o now : List Nat) (c0 : List Nat) (cs : List (Nat × List Nat)) : Prop where
  len : now.length = o.length
  p0 : Path o now 0 c0 0
  ps : ∀ c, c ∈ cs → Path o now c.1 c.2 c.1
  pm : (0 :: (c0 ++ flat cs)).Perm (List.range o.length)
def wtc (c : List Nat) : Nat := if c = [] then 0 else c.length + 2
def ffc (c0 : List Nat) (cs : List (Nat × List Nat)) : Nat := c0.length + (cs.map fun c => wtc c.2).sum
section
variable {o now c0 : List Nat} {cs : List (Nat × List Nat)}
theorem Rep.nd (R : Rep o now c0 cs) : (0 :: (c0 ++ flat cs)).Nodup := R.pm.nodup_iff.mpr List.nodup_range
theorem Rep.lt (R : Rep o now c0 cs) {i : Nat} (h : i ∈ 0 :: (c0 ++ flat cs)) : i < o.length := List.mem_range.mp (R.pm.mem_iff.mp h)
theorem Rep.mem (R : Rep o now c0 cs) {i : Nat} (h : i < o.length) : i ∈ 0 :: (c0 ++ flat cs) := R.pm.mem_iff.mpr (List.mem_range.mpr h)
theorem Rep.pos (R : Rep o now c0 cs) : 0 < o.length := R.lt (.head _)
theorem flat_app {a b : List (Nat × List Nat)} : flat (a ++ b) = flat a ++ flat b := List.flatMap_append
theorem flat_cons {x : Nat} {c : List Nat} {b : List (Nat × List Nat)} : flat ((x, c) :: b) = x :: (c ++ flat b) := rfl
theorem flat_mem {z : Nat} {c : Nat × List Nat} (h : c ∈ cs) (hz : z ∈ c.1 :: c.2) : z ∈ flat cs := List.mem_flatMap.mpr ⟨c, h, hz⟩
theorem turn_ring {x k : Nat} {c : List Nat} (p : Path o now x c x) (hk : k ∈ x :: c) : ∃ d, Path o now k d k ∧ (k :: d).Perm (x :: c) ∧ wtc d = wtc c := by
  by_cases h : k = x
  · subst h
    exact ⟨c, p, List.Perm.refl _, rfl⟩
  · have hk : k ∈ c := by
      cases hk with
      | head => exact (h rfl).elim
      | tail _ h => exact h
    obtain ⟨u, v, rfl⟩ := List.append_of_mem hk
    obtain ⟨p1, p2⟩ := path_app.mp p
    refine ⟨v ++ x :: u, path_app.mpr ⟨p2, p1⟩, ?_, ?_⟩
    · rw [← List.cons_append, ← List.cons_append]
      exact List.perm_append_comm
    · unfold wtc
      rw [if_neg (by simp), if_neg (by simp)]
      simp only [List.length_append, List.length_cons]
      omega
theorem Rep.at_ (R : Rep o now c0 cs) {k : Nat} (h1 : 1 ≤ k) (hk : k < o.length) : k ∈ c0 ∨ ∃ d cs', Rep o now c0 ((k, d) :: cs') ∧ ffc c0 ((k, d) :: cs') = ffc c0 cs := by
  have hm := R.mem hk
  cases hm with
  | head => omega
  | tail _ hm =>
    rcases List.mem_append.mp hm with hm | hm
    · exact .inl hm
    · obtain ⟨⟨x, c⟩, h2, h3⟩ := List.mem_flatMap.mp hm
      obtain ⟨a, b, rfl⟩ := List.append_of_mem h2
      obtain ⟨d, p, q, w⟩ := turn_ring (R.ps _ h2) h3
      refine .inr ⟨d, a ++ b, ⟨R.len, R.p0, fun c' hc' => ?_, ?_⟩, ?_⟩
      · cases hc' with
        | head => exact p
        | tail _ h =>
          refine R.ps c' ?_
          rcases List.mem_append.mp h with h | h
          · exact List.mem_append_left _ h
          · exact List.mem_append_right _ (.tail _ h)
      · refine List.Perm.trans (List.Perm.cons 0 (List.Perm.append_left c0 ?_)) R.pm
        rw [flat_cons, flat_app, flat_app, flat_cons]
        rw [← List.cons_append, ← List.cons_append (bs := flat b)]
        refine (List.Perm.append_right _ q).trans ?_
        rw [← List.append_assoc, ← List.append_assoc]
        exact List.Perm.append_right _ List.perm_append_comm
      · unfold ffc
        simp only [List.map_append, List.map_cons, List.sum_append, List.sum_cons, w]
        omega
theorem swp_get0 {k : Nat} (hk : k < now.length) : (swp k now)[0]? = now[k]? := by
  rw [swp_get hk]
  rfl
theorem swp_getk {k : Nat} (hk : k < now.length) : (swp k now)[k]? = now[0]? := by
  rw [swp_get hk]
  unfold tp
  split
  · rename_i h
    rw [h]
  · rw [if_pos rfl]
theorem swp_geto {k z : Nat} (hk : k < now.length) (h0 : z ≠ 0) (h1 : z ≠ k) : (swp k now)[z]? = now[z]? := by
  rw [swp_get hk]
  unfold tp
  rw [if_neg h0, if_neg h1]
theorem Rep.cut {u v : List Nat} {k : Nat} (R : Rep o now (u ++ k :: v) cs) : Rep o (swp k now) v ((k, u) :: cs) := by
  have nd := R.nd
  have hk : k < o.length := R.lt (.tail _ (List.mem_append_left _ (List.mem_append_right _ (.head _))))
  have hk' : k < now.length := by rw [R.len]; exact hk
  obtain ⟨p1, p2⟩ := path_app.mp R.p0
  have perm : (0 :: (v ++ flat ((k, u) :: cs))).Perm (0 :: ((u ++ k :: v) ++ flat cs)) := by
    refine List.Perm.cons 0 ?_
    rw [flat_cons, ← List.cons_append, ← List.append_assoc]
    refine List.Perm.append_right _ ?_
    refine List.perm_append_comm.trans ?_
    rw [List.cons_append]
    exact List.perm_middle.symm
  have nd' : (0 :: (v ++ flat ((k, u) :: cs))).Nodup := perm.nodup_iff.mpr nd
  have n0 := (List.nodup_cons.mp nd').1
  have n1 := (List.nodup_cons.mp nd').2
  have hv : ∀ z, z ∈ v → z ≠ 0 ∧ z ≠ k := fun z hz => ⟨fun e => n0 (e ▸ List.mem_append_left _ hz), fun e => (List.nodup_append.mp n1).2.2 z hz k (by rw [flat_cons]; exact .head _) e⟩
  have n2 := (List.nodup_append.mp n1).2.1
  rw [flat_cons] at n2
  have n3 := (List.nodup_cons.mp n2).1
  have hu : ∀ z, z ∈ u → z ≠ 0 ∧ z ≠ k := fun z hz => ⟨fun e => n0 (e ▸ List.mem_append_right _ (by rw [flat_cons]; exact .tail _ (List.mem_append_left _ hz))), fun e => n3 (e ▸ List.mem_append_left _ hz)⟩
  have hc : ∀ z, z ∈ flat cs → z ≠ 0 ∧ z ≠ k := fun z hz => ⟨fun e => n0 (e ▸ List.mem_append_right _ (by rw [flat_cons]; exact .tail _ (List.mem_append_right _ hz))), fun e => n3 (e ▸ List.mem_append_right _ hz)⟩
  refine ⟨swp_len.trans R.len, path_eq (swp_get0 hk') (fun z hz => swp_geto hk' (hv z hz).1 (hv z hz).2) p2, fun c hcm => ?_, perm.trans R.pm⟩
  cases hcm with
  | head => exact path_eq (swp_getk hk') (fun z hz => swp_geto hk' (hu z hz).1 (hu z hz).2) p1
  | tail _ h =>
    have a := hc c.1 (flat_mem h (.head _))
    exact path_eq (swp_geto hk' a.1 a.2) (fun z hz => swp_geto hk' (hc z (flat_mem h (.tail _ hz))).1 (hc z (flat_mem h (.tail _ hz))).2) (R.ps c h)
theorem Rep.join {d : List Nat} {k : Nat} (R : Rep o now c0 ((k, d) :: cs)) : Rep o (swp k now) (d ++ k :: c0) cs := by
  have nd := R.nd
  have hk : k < o.length := R.lt (.tail _ (List.mem_append_right _ (by rw [flat_cons]; exact .head _)))
  have hk' : k < now.length := by rw [R.len]; exact hk
  have perm : (0 :: ((d ++ k :: c0) ++ flat cs)).Perm (0 :: (c0 ++ flat ((k, d) :: cs))) := by
    refine List.Perm.cons 0 ?_
    rw [flat_cons, ← List.cons_append, ← List.append_assoc]
    refine List.Perm.append_right _ ?_
    refine List.perm_middle.trans ?_
    rw [← List.cons_append]
    exact List.perm_append_comm
  have n0 := (List.nodup_cons.mp nd).1
  have n1 := (List.nodup_cons.mp nd).2
  have hv : ∀ z, z ∈ c0 → z ≠ 0 ∧ z ≠ k := fun z hz => ⟨fun e => n0 (e ▸ List.mem_append_left _ hz), fun e => (List.nodup_append.mp n1).2.2 z hz k (by rw [flat_cons]; exact .head _) e⟩
  have n2 := (List.nodup_append.mp n1).2.1
  rw [flat_cons] at n2
  have n3 := (List.nodup_cons.mp n2).1
  have hu : ∀ z, z ∈ d → z ≠ 0 ∧ z ≠ k := fun z hz => ⟨fun e => n0 (e ▸ List.mem_append_right _ (by rw [flat_cons]; exact .tail _ (List.mem_append_left _ hz))), fun e => n3 (e ▸ List.mem_append_left _ hz)⟩
  have hc : ∀ z, z ∈ flat cs → z ≠ 0 ∧ z ≠ k := fun z hz => ⟨fun e => n0 (e ▸ List.mem_append_right _ (by rw [flat_cons]; exact .tail _ (List.mem_append_right _ hz))), fun e => n3 (e ▸ List.mem_append_right _ hz)⟩
  refine ⟨swp_len.trans R.len, path_app.mpr ⟨?_, ?_⟩, fun c hcm => ?_, perm.trans R.pm⟩
  · exact path_eq (swp_get0 hk') (fun z hz => swp_geto hk' (hu z hz).1 (hu z hz).2) (R.ps _ (.head _))
  · exact path_eq (swp_getk hk') (fun z hz => swp_geto hk' (hv z hz).1 (hv z hz).2) R.p0
  · have a := hc c.1 (flat_mem hcm (.head _))
    exact path_eq (swp_geto hk' a.1 a.2) (fun z hz => swp_geto hk' (hc z (flat_mem hcm (.tail _ hz))).1 (hc z (flat_mem hcm (.tail _ hz))).2) (R.ps c (.tail _ hcm))
theorem ffc_cut {u v : List Nat} {k : Nat} : ffc v ((k, u) :: cs) + 1 = ffc (u ++ k :: v) cs + if u = [] then 0 else 2 := by
  unfold ffc wtc
  rw [List.map_cons, List.sum_cons, List.length_append, List.length_cons]
  by_cases h : u = []
  · subst h
    show v.length + (0 + _) + 1 = 0 + (v.length + 1) + _ + 0
    omega
  · rw [if_neg h]
    simp only [if_neg h]
    omega
theorem ffc_join {d : List Nat} {k : Nat} : ffc (d ++ k :: c0) cs + (if d = [] then 0 else 2) = ffc c0 ((k, d) :: cs) + 1 := by
  unfold ffc wtc
  rw [List.map_cons, List.sum_cons, List.length_append, List.length_cons]
  by_cases h : d = []
  · subst h
    show 0 + (c0.length + 1) + _ + 0 = c0.length + (0 + _) + 1
    omega
  · rw [if_neg h]
    simp only [if_neg h]
    omega
theorem Rep.swap (R : Rep o now c0 cs) {k : Nat} (h1 : 1 ≤ k) (hk : k < o.length) : ∃ d ds, Rep o (swp k now) d ds ∧ ffc d ds ≤ ffc c0 cs + 1 := by
  rcases R.at_ h1 hk with h | ⟨d, cs', R', e⟩
  · obtain ⟨u, v, rfl⟩ := List.append_of_mem h
    have := ffc_cut (u := u) (v := v) (k := k) (cs := cs)
    refine ⟨_, _, R.cut, ?_⟩
    split at this <;> omega
  · have := ffc_join (c0 := c0) (d := d) (k := k) (cs := cs')
    refine ⟨_, _, R'.join, ?_⟩
    split at this <;> omega
theorem rep_refl (h : 0 < o.length) : Rep o o [] ((List.range' 1 (o.length - 1)).map fun i => (i, [])) := by
  refine ⟨rfl, rfl, fun c hc => ?_, ?_⟩
  · obtain ⟨i, _, rfl⟩ := List.mem_map.mp hc
    rfl
  · have e : flat ((List.range' 1 (o.length - 1)).map fun i => (i, [])) = List.range' 1 (o.length - 1) := by
      unfold flat
      rw [List.flatMap_map]
      generalize List.range' 1 (o.length - 1) = xs
      induction xs with
      | nil => rfl
      | cons x xs ih =>
        rw [List.flatMap_cons, ih]
        rfl
    rw [e, List.nil_append, List.range_eq_range']
    obtain ⟨n, hn⟩ : ∃ n, o.length = n + 1 := ⟨o.length - 1, by omega⟩
    rw [hn]
    exact List.Perm.refl _
theorem ffc_refl {n : Nat} : ffc [] ((List.range' 1 n).map fun i => (i, [])) = 0 := by
  unfold ffc
  rw [List.map_map]
  generalize List.range' 1 n = xs
  induction xs with
  | nil => rfl
  | cons x xs ih =>
    rw [List.map_cons, List.sum_cons]
    show 0 + (0 + _) = 0
    rw [show List.length ([] : List Nat) = 0 from rfl] at ih
    omega
theorem rep_of : ∀ {ks : List Nat} {now : List Nat}, (∀ k, k ∈ ks → 1 ≤ k ∧ k < now.length) → 0 < now.length → ∃ c0 cs, Rep (swps ks now) now c0 cs ∧ ffc c0 cs ≤ ks.length
  | [], now, _, h => ⟨_, _, rep_refl h, Nat.le_of_eq ffc_refl⟩
  | k :: ks, now, hk, h => by
    have a := hk k (.head _)
    obtain ⟨c0, cs, R, e⟩ := rep_of (ks := ks) (now := swp k now) (fun k' hk' => by rw [swp_len]; exact hk k' (.tail _ hk')) (by rw [swp_len]; exact h)
    obtain ⟨d, ds, R', e'⟩ := R.swap (k := k) a.1 (by rw [swps_len, swp_len]; exact a.2)
    rw [swp_swp a.1 a.2] at R'
    refine ⟨d, ds, R', ?_⟩
    rw [List.length_cons]
    omega
def plc (o now : List Nat) : Nat := if o.idxOf (now.headD 0) = 0 then (((List.range o.length).filter fun i => decide (now[i]? ≠ o[i]?)).headD 0) else o.idxOf (now.headD 0)
inductive Gr (o : List Nat) : List Nat → List Nat → Prop
  | done : Gr o o []
  | step {now : List Nat} {ks : List Nat} : now ≠ o → Gr o (swp (plc o now) now) ks → Gr o now (plc o now :: ks)
theorem idx_of (nd : o.Nodup) {a v : Nat} (h : o[a]? = some v) : o.idxOf v = a := by
  obtain ⟨h1, rfl⟩ := List.getElem?_eq_some_iff.mp h
  exact List.Nodup.idxOf_getElem nd a h1
theorem Rep.eq0 (nd : o.Nodup) (R : Rep o o c0 cs) : ffc c0 cs = 0 := by
  have one : ∀ {x : Nat} {c : List Nat}, Path o o x c x → (x :: c).Nodup → x < o.length → c = [] := fun {x c} p n hx => by
    cases c with
    | nil => rfl
    | cons a c =>
      have hx' := List.getElem?_eq_getElem hx
      have e1 := idx_of nd hx'
      have e2 := idx_of nd (p.1.symm.trans hx')
      rw [e1] at e2
      exact ((List.nodup_cons.mp n).1 (e2 ▸ List.mem_cons_self)).elim
  have n := R.nd
  have z0 : c0 = [] := one R.p0 (by
    rw [← List.cons_append] at n
    exact (List.nodup_append.mp n).1) R.pos
  subst z0
  have zs : ∀ c, c ∈ cs → c.2 = [] := fun c hc => by
    refine one (R.ps c hc) ?_ (R.lt (.tail _ (List.mem_append_right _ (flat_mem hc (.head _)))))
    obtain ⟨a, b, rfl⟩ := List.append_of_mem hc
    have n1 := (List.nodup_cons.mp n).2
    rw [List.nil_append, flat_app] at n1
    have n2 := (List.nodup_append.mp n1).2.1
    have n2 : ((c.1 :: c.2) ++ flat b).Nodup := n2
    exact (List.nodup_append.mp n2).1
  unfold ffc
  rw [List.sum_eq_zero_iff_forall_eq_nat.mpr]
  · rfl
  · intro w hw
    obtain ⟨c, hc, rfl⟩ := List.mem_map.mp hw
    rw [zs c hc]
    rfl
theorem Rep.less (nd : o.Nodup) (R : Rep o now c0 cs) (ne : now ≠ o) : 1 ≤ plc o now ∧ plc o now < o.length ∧ ∃ d ds, Rep o (swp (plc o now) now) d ds ∧ ffc d ds + 1 = ffc c0 cs := by
  have pos : 0 < now.length := by rw [R.len]; exact R.pos
  have hd : ∃ v, now[0]? = some v ∧ now.headD 0 = v := by
    cases now with
    | nil => exact absurd pos (Nat.lt_irrefl _)
    | cons v t => exact ⟨v, rfl, rfl⟩
  obtain ⟨v, h1, h2⟩ := hd
  have n := R.nd
  cases c0 with
  | cons a c =>
    have p := R.p0
    have e : o.idxOf (now.headD 0) = a := by
      rw [h2]
      exact idx_of nd (p.1.symm.trans h1)
    have ha : a ≠ 0 := fun e => (List.nodup_cons.mp n).1 (e ▸ List.mem_cons_self)
    have e2 : plc o now = a := by
      unfold plc
      rw [e, if_neg ha]
    rw [e2]
    have hlt : a < o.length := R.lt (.tail _ (.head _))
    refine ⟨Nat.pos_of_ne_zero ha, hlt, _, _, Rep.cut (u := []) (k := a) (v := c) R, ?_⟩
    have := ffc_cut (u := []) (v := c) (k := a) (cs := cs)
    rw [if_pos rfl] at this
    exact this
  | nil =>
    have p : now[0]? = o[0]? := R.p0
    have e : o.idxOf (now.headD 0) = 0 := by
      rw [h2]
      exact idx_of nd (p.symm.trans h1)
    have e2 : plc o now = ((List.range o.length).filter fun i => decide (now[i]? ≠ o[i]?)).headD 0 := by
      unfold plc
      rw [e, if_pos rfl]
    obtain ⟨k, hk⟩ : ∃ k, k < o.length ∧ now[k]? ≠ o[k]? := by
      refine Classical.byContradiction fun hh => ne (List.ext_getElem? fun i => ?_)
      by_cases hi : i < o.length
      · exact Classical.byContradiction fun h => hh ⟨i, hi, h⟩
      · rw [List.getElem?_eq_none (by rw [R.len]; omega), List.getElem?_eq_none (by omega)]
    cases hf : (List.range o.length).filter fun i => decide (now[i]? ≠ o[i]?) with
    | nil =>
      have : k ∈ ([] : List Nat) := hf ▸ List.mem_filter.mpr ⟨List.mem_range.mpr hk.1, decide_eq_true hk.2⟩
      cases this
    | cons q t =>
      have hq : q ∈ (List.range o.length).filter fun i => decide (now[i]? ≠ o[i]?) := hf ▸ List.mem_cons_self
      obtain ⟨q1, q2⟩ := List.mem_filter.mp hq
      have q1 := List.mem_range.mp q1
      have q2 := of_decide_eq_true q2
      rw [hf] at e2
      have e2 : plc o now = q := e2
      rw [e2]
      have q3 : 1 ≤ q := by
        rcases Nat.eq_zero_or_pos q with rfl | h
        · exact (q2 p).elim
        · exact h
      refine ⟨q3, q1, ?_⟩
      rcases R.at_ q3 q1 with h | ⟨d, cs', R', e'⟩
      · cases h
      · have hd : d ≠ [] := fun z => by
          subst z
          exact q2 (R'.ps _ (.head _))
        have := ffc_join (c0 := []) (d := d) (k := q) (cs := cs')
        rw [if_neg hd] at this
        exact ⟨_, _, R'.join, by omega⟩
theorem rep_gr (nd : o.Nodup) : ∀ {n : Nat} {now c0 : List Nat} {cs : List (Nat × List Nat)}, Rep o now c0 cs → ffc c0 cs = n → ∃ ks, Gr o now ks ∧ ks.length = n ∧ (∀ k, k ∈ ks → 1 ≤ k ∧ k < o.length) ∧ swps ks now = o
  | n, now, c0, cs, R, e => by
    by_cases h : now = o
    · subst h
      rw [R.eq0 nd] at e
      subst e
      exact ⟨[], .done, rfl, fun _ z => (by cases z), rfl⟩
    · obtain ⟨h1, h2, d, ds, R', e'⟩ := R.less nd h
      cases n with
      | zero => omega
      | succ n =>
        obtain ⟨ks, k1, k2, k3, k4⟩ := rep_gr nd (n := n) R' (by omega)
        refine ⟨plc o now :: ks, .step h k1, by rw [List.length_cons, k2], fun k hk => ?_, k4⟩
        cases hk with
        | head => exact ⟨h1, h2⟩
        | tail _ h => exact k3 k h
theorem gr_fun : ∀ {ks ks' now : List Nat}, Gr o now ks → Gr o now ks' → ks = ks'
  | _, _, _, .done, .done => rfl
  | _, _, _, .done, .step h _ => (h rfl).elim
  | _, _, _, .step h _, .done => (h rfl).elim
  | _, _, _, .step _ a, .step _ b => congrArg _ (gr_fun a b)
theorem wtc_le (c : List Nat) : 2 * wtc c ≤ 3 * (c.length + 1) := by
  unfold wtc
  cases c with
  | nil => decide
  | cons x c =>
    rw [if_neg (by simp), List.length_cons]
    omega
theorem flat_le : ∀ (cs : List (Nat × List Nat)), 2 * (cs.map fun c => wtc c.2).sum ≤ 3 * (flat cs).length
  | [] => Nat.le_refl _
  | (x, c) :: cs => by
    have := flat_le cs
    have h := wtc_le c
    rw [List.map_cons, List.sum_cons, flat_cons, List.length_cons, List.length_append]
    show 2 * (wtc c + _) ≤ _
    omega
theorem Rep.few (R : Rep o now c0 cs) : 2 * ffc c0 cs ≤ 3 * o.length := by
  have h := R.pm.length_eq
  rw [List.length_range, List.length_cons, List.length_append] at h
  have := flat_le cs
  unfold ffc
  omega
end
def sfGo (o : List Nat) : Nat → List Nat → List Nat
  | 0, _ => []
  | n + 1, now => if now = o then [] else plc o now :: sfGo o n (swp (plc o now) now)
def swapsFor (o : List Nat) : List Nat := sfGo o (2 * o.length) (List.range o.length)
theorem gr_go {o : List Nat} : ∀ {n : Nat} {now ks : List Nat}, Gr o now ks → ks.length ≤ n → sfGo o n now = ks
  | 0, now, ks, g, h => by
    cases g with
    | done => rfl
    | step _ _ => exact absurd h (by simp)
  | n + 1, now, ks, g, h => by
    unfold sfGo
    cases g with
    | done => rw [if_pos rfl]
    | step h1 g => rw [if_neg h1, gr_go g (by simpa using h)]
def Ord (o : List Nat) : Prop := ∃ ks, (∀ k, k ∈ ks → 1 ≤ k ∧ k < o.length) ∧ 0 < o.length ∧ swps ks (List.range o.length) = o
theorem Ord.nd {o : List Nat} (h : Ord o) : o.Nodup := by
  obtain ⟨ks, h1, h2, h3⟩ := h
  rw [← h3]
  exact (swps_perm fun k hk => by rw [List.length_range]; exact h1 k hk).nodup_iff.mpr List.nodup_range
theorem swapsFor_ok {o : List Nat} (h : Ord o) : Gr o (List.range o.length) (swapsFor o) ∧ (∀ k, k ∈ swapsFor o → 1 ≤ k ∧ k < o.length) ∧ swps (swapsFor o) (List.range o.length) = o ∧ 2 * (swapsFor o).length ≤ 3 * o.length := by
  have nd := h.nd
  obtain ⟨ks, h1, h2, h3⟩ := h
  obtain ⟨c0, cs, R, e⟩ := rep_of (ks := ks) (now := List.range o.length) (fun k hk => by rw [List.length_range]; exact h1 k hk) (by rw [List.length_range]; exact h2)
  rw [h3] at R
  obtain ⟨ks', g1, g2, g3, g4⟩ := rep_gr nd R rfl
  have few := R.few
  have e : swapsFor o = ks' := gr_go g1 (by omega)
  rw [e]
  exact ⟨g1, g3, g4, by omega⟩
theorem swapsFor_least {o ks : List Nat} (hk : ∀ k, k ∈ ks → 1 ≤ k ∧ k < o.length) (h0 : 0 < o.length) (h : swps ks (List.range o.length) = o) : (swapsFor o).length ≤ ks.length := by
  have H : Ord o := ⟨ks, hk, h0, h⟩
  obtain ⟨c0, cs, R, e⟩ := rep_of (ks := ks) (now := List.range o.length) (fun k hk' => by rw [List.length_range]; exact hk k hk') (by rw [List.length_range]; exact h0)
  rw [h] at R
  obtain ⟨ks', g1, g2, _, _⟩ := rep_gr H.nd R rfl
  rw [gr_fun (swapsFor_ok H).1 g1, g2]
  exact e
def topOf (ks : List Nat) : Nat := ks.foldr (fun k m => max (k + 1) m) 0
def orderOf (ks : List Nat) : List Nat := swps ks (List.range (topOf ks))
def fewOf (ks : List Nat) : List Nat := swapsFor (orderOf ks)
def nbr (m : Nat) (x : List Nat) : List (List Nat) := (List.range' 1 (m - 1)).map fun k => swp k x
theorem rch_iff {m : Nat} {s : List Nat} : ∀ {d : Nat} {x : List Nat}, Rch (nbr m) s d x ↔ ∃ ks : List Nat, ks.length = d ∧ (∀ k, k ∈ ks → 1 ≤ k ∧ k < m) ∧ swps ks s = x
  | 0, x => by
    constructor
    · intro h
      exact ⟨[], rfl, fun k z => (by cases z), (show x = s from h).symm⟩
    · rintro ⟨ks, h1, h2, rfl⟩
      obtain rfl := List.length_eq_zero_iff.mp h1
      rfl
  | d + 1, x => by
    constructor
    · rintro ⟨y, hy, hx⟩
      obtain ⟨ks, h1, h2, rfl⟩ := rch_iff.mp hy
      obtain ⟨k, hk, rfl⟩ := List.mem_map.mp hx
      rw [List.mem_range'_1] at hk
      refine ⟨ks ++ [k], by rw [List.length_append, h1]; rfl, fun j hj => ?_, ?_⟩
      · rcases List.mem_append.mp hj with hj | hj
        · exact h2 j hj
        · rw [List.mem_singleton.mp hj]
          omega
      · rw [swps_app]
        rfl
    · rintro ⟨ks, h1, h2, rfl⟩
      have ne : ks ≠ [] := fun z => by
        rw [z] at h1
        cases h1
      have e := List.dropLast_concat_getLast ne
      have hl := h2 _ (List.getLast_mem ne)
      refine ⟨swps ks.dropLast s, rch_iff.mpr ⟨ks.dropLast, by rw [List.length_dropLast, h1]; rfl, fun k hk => h2 k ((List.dropLast_sublist ks).subset hk), rfl⟩, List.mem_map.mpr ⟨ks.getLast ne, ?_, ?_⟩⟩
      · rw [List.mem_range'_1]
        omega
      · have := swps_app (a := ks.dropLast) (b := [ks.getLast ne]) (xs := s)
        rw [e] at this
        rw [this]
        rfl
theorem layers_ok {o : List Nat} (H : Ord o) {f : Nat} (hf : (swapsFor o).length < f) : lyGo (nbr o.length) o f [List.range o.length] [List.range o.length] 0 = some (swapsFor o).length := by
  obtain ⟨_, h2, h3, _⟩ := swapsFor_ok H
  have h0 : 0 < o.length := by
    obtain ⟨_, _, h, _⟩ := H
    exact h
  refine lyGo_ok (rch_iff.mpr ⟨swapsFor o, rfl, h2, h3⟩) (fun d hd r => ?_) f 0 _ _ LyI.zero (Nat.zero_le _) (by omega)
  obtain ⟨ks, k1, k2, k3⟩ := rch_iff.mp r
  have := swapsFor_least k2 h0 k3
  omega
abbrev iV (n : Nat) : V := .int (n : Int)
def tk (x : List Nat) : List Key := x.map fun (n : Nat) => Sum.inl (n : Int)
theorem tk_kV (x : List Nat) : (tk x).map kV = x.map iV := by
  unfold tk
  rw [List.map_map]
  rfl
theorem tk_inj : ∀ {x y : List Nat}, tk x = tk y → x = y
  | [], [], _ => rfl
  | [], b :: y, h => by cases h
  | a :: x, [], h => by cases h
  | a :: x, b :: y, h => by
    unfold tk at h
    rw [List.map_cons, List.map_cons] at h
    injection h with h1 h2
    injection h1 with h1
    rw [tk_inj (x := x) (y := y) h2, Int.ofNat.inj h1]
def dk (xs : List (List Nat)) : List (List Key × V) := xs.map fun x => (tk x, .bl true)
theorem dk_val (x : List Nat) : ∀ xs : List (List Nat), valV (dk xs) (tk x) = if x ∈ xs then some (.bl true) else none
  | [] => rfl
  | y :: ys => by
    show valV ((tk y, V.bl true) :: dk ys) (tk x) = _
    by_cases h : y = x
    · subst h
      rw [valV_pos rfl, if_pos List.mem_cons_self]
    · rw [valV_neg (fun z => h (tk_inj z)), dk_val x ys]
      by_cases h2 : x ∈ ys
      · rw [if_pos h2, if_pos (List.mem_cons_of_mem _ h2)]
      · rw [if_neg h2, if_neg (fun z => (List.mem_cons.mp z).elim (fun e => h e.symm) h2)]
theorem dk_some (x : List Nat) (xs : List (List Nat)) : (valV (dk xs) (tk x)).isSome = decide (x ∈ xs) := by
  rw [dk_val]
  by_cases h : x ∈ xs
  · rw [if_pos h, decide_eq_true h]
    rfl
  · rw [if_neg h, decide_eq_false h]
    rfl
theorem dk_put {x : List Nat} {xs : List (List Nat)} (h : x ∉ xs) : putK (dk xs) (tk x) (.bl true) = dk (xs ++ [x]) := by
  rw [putK_new _ (by rw [dk_val, if_neg h])]
  unfold dk
  rw [List.map_append]
  rfl
theorem dk_len (xs : List (List Nat)) : (dk xs).length = xs.length := List.length_map _
def spSwap : Sp := fun vs H Q _ => ∃ (p : Addr) (x : List Nat) (k : Nat), vs = [.ref p, .int ((k : Int) + 1)] ∧ H p = some (.lst (x.map iV)) ∧ 1 ≤ k ∧ k < x.length ∧ Q (.ref p) (upd H p (.lst ((swp k x).map iV)))
def tSub1 : TE := tOp (rI0 fun i j => .int (i - j)) (tVar 1) (tC (.int 1))
def tSwap (K : PySem.W.Frag) : TS := tSeq (tAsg (tOp (rIxL K) (tVar 0) (tC (.int 0))) (gName 2))
  (tSeq (tAsg (tOp (rIxL K) (tVar 0) tSub1) (gSub (tVar 0) (tC (.int 0)) rSetL))
  (tSeq (tAsg (tVar 2) (gSub (tVar 0) tSub1 rSetL)) (tRet (tVar 0))))
theorem ixN_k {n k : Nat} (h : k < n) : ixN n (k : Int) = some k := by
  rw [ixN_int (by omega) (by omega), Int.toNat_natCast]
theorem atI_n {α : Type} {xs : List α} {k : Nat} {y : α} (h : xs[k]? = some y) : atI xs (k : Int) = some y := by
  have hl := (List.getElem?_eq_some_iff.mp h).1
  unfold atI
  rw [ixN_k hl]
  exact h
section
variable {P : Program} {w : World} {K : PySem.W.Frag} {mg : Str → Option Value} {base : Heap} {f : Addr} {fd : FuncData}
theorem fn_swap {x qual : Str} {params : Arguments} {body : List Stmt} {scope : Scope} {dvs : List V} {kws : List (Str × V)} {N ps : List Str} {k : Nat} (F : FunD K x qual params body scope dvs kws f fd) (S : FnScope N ps scope)
    (hi : ps.length = 2) (hN : N.length = 3)
    (hb : ∀ (cd : Value) (A : Around) (outer : List Env) (s : Shared) (H : Hp) (E : XK), A.guards = some [] → Room k (A.deeper (envOfC qual scope s.heap.objs.size f cd)) →
      PSs (cxOf CX0 P w K mg base N qual scope f cd A outer s H E) body (tSwap K)) : FnG P w K mg base CX0 (k + 1) f fd ps spSwap := by
  refine fnG_of F S (fun vs H Q E ⟨p, x, k, h, _⟩ => (by rw [h, hi]; rfl)) fun cd A outer s H vs Q E g hr' h => ?_
  refine ⟨_, hb cd A outer s H E g hr', ?_⟩
  obtain ⟨p, x, j, rfl, hp, h1, h2, q⟩ := h
  have hst : L2.start N [V.ref p, .int ((j : Int) + 1)] = [some (.ref p), some (.int ((j : Int) + 1)), none] := by
    unfold L2.start
    rw [hN]
    rfl
  rw [hst]
  have e0 := List.getElem?_eq_getElem (show 0 < x.length by omega)
  have ej := List.getElem?_eq_getElem h2
  have sw := swp_of e0 ej
  have m0 : (x.map iV)[0]? = some (iV x[0]) := by rw [List.getElem?_map, e0]; rfl
  have mj : (x.map iV)[j]? = some (iV x[j]) := by rw [List.getElem?_map, ej]; rfl
  have sb : ((j : Int) + 1) - 1 = (j : Int) := by omega
  refine ⟨.ref p, rfl, p, x.map iV, 0, iV x[0], rfl, rfl, .inl (.inl hp), atI_n (k := 0) m0, ?_⟩
  refine ⟨.ref p, rfl, .int ((j : Int) + 1), rfl, (j : Int) + 1, 1, rfl, rfl, p, x.map iV, j, iV x[j], rfl, congrArg V.int sb, .inl (.inl hp), atI_n mj, ?_⟩
  refine ⟨.ref p, rfl, p, x.map iV, 0, 0, rfl, rfl, hp, ixN_k (k := 0) (by rw [List.length_map]; omega), ?_⟩
  refine ⟨iV x[0], rfl, .ref p, rfl, .int ((j : Int) + 1), rfl, (j : Int) + 1, 1, rfl, rfl, p, (x.map iV).set 0 (iV x[j]), j, j, rfl, congrArg V.int sb, upd_same, ixN_k (by rw [List.length_set, List.length_map]; exact h2), ?_⟩
  refine ⟨.ref p, rfl, ?_⟩
  rw [upd_upd]
  have e : ((x.map iV).set 0 (iV x[j])).set j (iV x[0]) = (swp j x).map iV := by
    rw [sw, List.map_set, List.map_set]
  rw [e]
  exact q
end
def rLenQ (K : PySem.W.Frag) : List V → Hp → VK → Prop := fun xs H Q => ∃ p ys, xs = [.ref p] ∧ (SqL K H p ys ∨ SqT K H p ys) ∧ Q (.int ys.length) H
def rLstQ (K : PySem.W.Frag) : List V → Hp → VK → Prop := fun xs H Q => ∃ p ys, xs = [.ref p] ∧ (SqL K H p ys ∨ SqT K H p ys) ∧ ∀ l, H l = none → Q (.ref l) (upd H l (.lst ys))
def rDictT1 : List V → Hp → VK → Prop := fun xs H Q => ∃ (a : Addr) (k : List Key) (v : V), xs = [.ref a] ∧ Rd H a (.dT [(k, v)]) ∧ ∀ p, H p = none → Q (.ref p) (upd H p (.dT [(k, v)]))
def tLenQ (K : PySem.W.Frag) : TE := tCB (rLenQ K) (tCons (tVar 0) tNil)
def tLyIn (K : PySem.W.Frag) : TS := tSeq (tAsg (tThen (tCall spSwap [] (fun _ _ _ => False) (tCons (tCB (rLstQ K) (tCons (tVar 5) tNil)) (tCons (tVar 6) tNil))) (kTup K)) (gName 7))
  (tIfS (tB (tDNotIn (tVar 7) (tVar 2))) (tSeq (sDPut (tVar 2) (tVar 7) (tC (.bl true))) (sDPut (tVar 4) (tVar 7) (tC (.bl true)))) tNext)
def tLyFor (K : PySem.W.Frag) : TS := tFor (iKeys (tVar 1)) (gName 5) (tFor (iRng2 (tCons (tC (.int 2)) (tCons (tOp (rI0 fun i j => .int (i + j)) (tLenQ K) (tC (.int 1))) tNil))) (gName 6) (tLyIn K))
def tLyBody (K : PySem.W.Frag) : TS := tSeq (tAsg tDNewT (gName 4)) (tSeq (tLock (tLyFor K)) (tSeq (tAsg (tVar 4) (gName 1)) (tAsg (tOp (rI0 fun i j => .int (i + j)) (tVar 3) (tC (.int 1))) (gName 3))))
def tLayers (K : PySem.W.Frag) : TS := tSeq (tAsg (tDispT (tTupRg (tRg1 (tLenQ K))) (tC (.bl true))) (gName 1))
  (tSeq (tAsg (tCB rDictT1 (tCons (tVar 1) tNil)) (gName 2))
  (tSeq (tAsg (tC (.int 0)) (gName 3))
  (tSeq (tWhile (tB (tDNotIn (tThen (tVar 0) (kTup K)) (tVar 2))) (tLyBody K)) (tRet (tVar 3)))))
section
variable {α : Type} [DecidableEq α]
theorem lyOne_snoc {y : α} {os : List α} {st : List α × List α} : lyOne (os ++ [y]) st = if y ∈ (lyOne os st).1 then lyOne os st else ((lyOne os st).1 ++ [y], (lyOne os st).2 ++ [y]) := by
  unfold lyOne
  rw [List.foldl_append]
  rfl
theorem lyOne_len : ∀ (os : List α) (st : List α × List α), (lyOne os st).1.length ≤ st.1.length + os.length ∧ (lyOne os st).2.length ≤ st.2.length + os.length
  | [], st => ⟨Nat.le_refl _, Nat.le_refl _⟩
  | o :: os, st => by
    obtain ⟨h1, h2⟩ := lyOne_len os (if o ∈ st.1 then st else (st.1 ++ [o], st.2 ++ [o]))
    have e : lyOne (o :: os) st = lyOne os (if o ∈ st.1 then st else (st.1 ++ [o], st.2 ++ [o])) := rfl
    rw [e, List.length_cons]
    by_cases h : o ∈ st.1
    · rw [if_pos h] at h1 h2 ⊢
      exact ⟨by omega, by omega⟩
    · rw [if_neg h] at h1 h2 ⊢
      rw [List.length_append, List.length_singleton] at h1 h2
      exact ⟨by omega, by omega⟩
end
section
variable {K : PySem.W.Frag} {H0 H : Hp} {L S Q : Addr} {uL : HO} {seen later : List (List Nat)}
structure LyR (H0 H : Hp) (L : Addr) (uL : HO) (S Q : Addr) (seen later : List (List Nat)) : Prop where
  l : H L = some uL
  s : H S = some (.dT (dk seen))
  p : H Q = some (.dT (dk later))
  n1 : L ≠ S
  n2 : L ≠ Q
  n3 : S ≠ Q
  f1 : H0 L = none
  f2 : H0 S = none
  f3 : H0 Q = none
  old : Same H0 H
  sub : ∀ z, z ∈ later → z ∈ seen
theorem LyR.grow {H' : Hp} (h : LyR H0 H L uL S Q seen later) (e : Same H H') : LyR H0 H' L uL S Q seen later :=
  ⟨e _ _ h.l, e _ _ h.s, e _ _ h.p, h.n1, h.n2, h.n3, h.f1, h.f2, h.f3, fun b o q => e _ _ (h.old b o q), h.sub⟩
theorem LyR.put {x : List Nat} (h : LyR H0 H L uL S Q seen later) : LyR H0 (upd (upd H S (.dT (dk (seen ++ [x])))) Q (.dT (dk (later ++ [x])))) L uL S Q (seen ++ [x]) (later ++ [x]) := by
  refine ⟨?_, ?_, upd_same, h.n1, h.n2, h.n3, h.f1, h.f2, h.f3, fun b o q => ?_, fun z hz => ?_⟩
  · rw [L2.upd_ne h.n2, L2.upd_ne h.n1]
    exact h.l
  · rw [L2.upd_ne h.n3, upd_same]
  · have e1 : b ≠ Q := fun z => by rw [z, h.f3] at q; cases q
    have e2 : b ≠ S := fun z => by rw [z, h.f2] at q; cases q
    rw [L2.upd_ne e1, L2.upd_ne e2]
    exact h.old b o q
  · rcases List.mem_append.mp hz with hz | hz
    · exact List.mem_append_left _ (h.sub z hz)
    · exact List.mem_append_right _ hz
theorem same_newT {a : Addr} {o : HO} (h : H a = none) : Same H (upd H a o) := fun b u e => by
  rw [L2.upd_ne (fun z => by rw [z, h] at e; cases e)]
  exact e
theorem same_swap {l q : Addr} {o1 o2 o3 : HO} (h : H l = none) (h2 : upd (upd H l o1) l o2 q = none) : Same H (upd (upd (upd H l o1) l o2) q o3) := fun b u e => by
  have e1 : b ≠ l := fun z => by rw [z, h] at e; cases e
  have e2 : b ≠ q := fun z => by
    rw [← z, L2.upd_ne e1, L2.upd_ne e1, e] at h2
    cases h2
  rw [L2.upd_ne e2, L2.upd_ne e1, L2.upd_ne e1]
  exact e
theorem nbr_len {m : Nat} {x : List Nat} : (nbr m x).length = m - 1 := by
  unfold nbr
  rw [List.length_map, List.length_range']
theorem nbr_get {m j : Nat} {x : List Nat} (h : j < m - 1) : (nbr m x)[j]? = some (swp (1 + j) x) := by
  unfold nbr
  rw [List.getElem?_map, List.getElem?_range' h]
  simp
theorem take_snoc {α : Type} {xs : List α} {i : Nat} {x : α} (h : xs[i]? = some x) : xs.take (i + 1) = xs.take i ++ [x] := by
  rw [List.take_add_one, h]
  rfl
def lyF (n : Nat) (layer : List (List Nat)) (st : List (List Nat) × List (List Nat)) : List (List Nat) × List (List Nat) := layer.foldl (fun st x => lyOne (nbr n x) st) st
theorem lyF_len (n : Nat) : ∀ (ly : List (List Nat)) (st : List (List Nat) × List (List Nat)), (lyF n ly st).1.length ≤ st.1.length + ly.length * n ∧ (lyF n ly st).2.length ≤ st.2.length + ly.length * n
  | [], st => ⟨by simp [lyF], by simp [lyF]⟩
  | x :: ly, st => by
    obtain ⟨h1, h2⟩ := lyF_len n ly (lyOne (nbr n x) st)
    obtain ⟨g1, g2⟩ := lyOne_len (nbr n x) st
    rw [nbr_len] at g1 g2
    have e : lyF n (x :: ly) st = lyF n ly (lyOne (nbr n x) st) := rfl
    rw [e, List.length_cons, Nat.succ_mul]
    exact ⟨by omega, by omega⟩
theorem lyF_snoc {n : Nat} {ly : List (List Nat)} {x : List Nat} {st : List (List Nat) × List (List Nat)} : lyF n (ly ++ [x]) st = lyOne (nbr n x) (lyF n ly st) := by
  unfold lyF
  rw [List.foldl_append]
  rfl
theorem lyF_mem {n : Nat} {ly : List (List Nat)} {st : List (List Nat) × List (List Nat)} (h1 : ∀ x, x ∈ ly → x.length = n) (h2 : ∀ x, x ∈ st.2 → x.length = n) : ∀ x, x ∈ (lyF n ly st).2 → x.length = n := fun x hx => by
  rcases ((lyFold_ok (nx := nbr n) ly st).2 x).mp hx with h | ⟨⟨y, hy, h⟩, _⟩
  · exact h2 x h
  · unfold nbr at h
    obtain ⟨k, _, rfl⟩ := List.mem_map.mp h
    rw [swp_len]
    exact h1 y hy
theorem lyIn_t {D : Ends} {a : Addr} {c : Int} {qx : Addr} {n j : Nat} {x : List Nat} {st : List (List Nat) × List (List Nat)} {v7 : Option V} (hj : j < n - 1) (hx : x.length = n) (r : LyR H0 H L uL S Q (lyOne ((nbr n x).take j) st).1 (lyOne ((nbr n x).take j) st).2)
    (hq : H qx = some (.tup (x.map iV))) (b1 : (lyOne ((nbr n x).take j) st).1.length < sizeLine) (b2 : (lyOne ((nbr n x).take j) st).2.length < sizeLine)
    (hn : ∀ (H' : Hp) (v7 : Option V), LyR H0 H' L uL S Q (lyOne ((nbr n x).take (j + 1)) st).1 (lyOne ((nbr n x).take (j + 1)) st).2 → H' qx = some (.tup (x.map iV)) → D.nx [some (.ref a), some (.ref L), some (.ref S), some (.int c), some (.ref Q), some (.ref qx), some (.int (2 + j)), v7] H') :
    tLyIn K D [some (.ref a), some (.ref L), some (.ref S), some (.int c), some (.ref Q), some (.ref qx), some (.int (2 + j)), v7] H := by
  have e : (nbr n x).take (j + 1) = (nbr n x).take j ++ [swp (1 + j) x] := take_snoc (nbr_get hj)
  rw [e, lyOne_snoc] at hn
  generalize lyOne ((nbr n x).take j) st = sj at *
  generalize hy : swp (1 + j) x = y at *
  refine ⟨.ref qx, rfl, qx, x.map iV, rfl, .inr (.inl (.inl hq)), fun l hl => ⟨.int (2 + j), rfl, l, x, 1 + j, ?_, upd_same, by omega, by omega, .inl ⟨l, y.map iV, rfl, .inl (.inl ?_), fun q hq2 => ?_⟩⟩⟩
  · show [V.ref l, V.int (2 + (j : Int))] = [V.ref l, V.int (((1 + j : Nat) : Int) + 1)]
    rw [show (((1 + j : Nat) : Int) + 1) = 2 + (j : Int) by omega]
  · rw [hy]
    exact upd_same
  have g3 := same_swap (o3 := .tup (y.map iV)) hl hq2
  have r3 := r.grow g3
  have hq3 := g3 _ _ hq
  have eb : (upd (upd (upd H l (.lst (x.map iV))) l (.lst ((swp (1 + j) x).map iV))) q (.tup (y.map iV))) q = some (.tup ((tk y).map kV)) := by
    rw [tk_kV, upd_same]
  generalize upd (upd (upd H l (.lst (x.map iV))) l (.lst ((swp (1 + j) x).map iV))) q (.tup (y.map iV)) = H3 at *
  refine ⟨.ref q, rfl, .ref S, rfl, S, valV (dk sj.1) (tk y), rfl, DGet.t r3.s eb, _, rfl, ?_⟩
  rw [dk_some]
  by_cases h : y ∈ sj.1
  · rw [decide_eq_true h]
    rw [if_pos h] at hn
    exact hn H3 _ r3 hq3
  · rw [decide_eq_false h]
    rw [if_neg h] at hn
    have h2 : y ∉ sj.2 := fun z => h (r3.sub y z)
    have nq : q ≠ S := fun z => by rw [z, r3.s] at eb; cases eb
    show tSeq (sDPut (tVar 2) (tVar 7) (tC (.bl true))) (sDPut (tVar 4) (tVar 7) (tC (.bl true))) D _ H3
    refine ⟨.ref S, rfl, .ref q, rfl, S, _, rfl, DPut.t r3.s eb (by rw [dk_len]; exact b1), .ref Q, rfl, .ref q, rfl, Q, _, rfl, DPut.t (kvs := dk sj.2) (k := tk y) (b := q) (by rw [L2.upd_ne r3.n3.symm]; exact r3.p) (by rw [L2.upd_ne nq]; exact eb) (by rw [dk_len]; exact b2), ?_⟩
    rw [dk_put h, dk_put h2]
    refine hn _ _ r3.put ?_
    have n1 : qx ≠ S := fun z => by rw [z, r3.s] at hq3; cases hq3
    have n2 : qx ≠ Q := fun z => by rw [z, r3.p] at hq3; cases hq3
    rw [L2.upd_ne n2, L2.upd_ne n1]
    exact hq3
theorem lyFor_t {D : Ends} {a : Addr} {c : Int} {n : Nat} {o : List Nat} {od : Obj} {layer : List (List Nat)} {v5 v6 v7 : Option V} (sq : SqL K H0 a (o.map iV)) (ho : o.length = n) (hn : n < 100) (hl : ∀ x, x ∈ layer → x.length = n)
    (r : LyR H0 H L (.frz od (.dT (dk layer))) S Q seen later) (b1 : seen.length + layer.length * n < sizeLine) (b2 : later.length + layer.length * n < sizeLine)
    (hd : ∀ (H' : Hp) (v5 v6 v7 : Option V), LyR H0 H' L (.frz od (.dT (dk layer))) S Q (lyF n layer (seen, later)).1 (lyF n layer (seen, later)).2 → D.nx [some (.ref a), some (.ref L), some (.ref S), some (.int c), some (.ref Q), v5, v6, v7] H') :
    tLyFor K D [some (.ref a), some (.ref L), some (.ref S), some (.int c), some (.ref Q), v5, v6, v7] H := by
  refine ⟨.ref L, rfl, L, od, rfl, .inr ⟨dk layer, r.l, ?_⟩⟩
  refine for_it walk_keysT (fun i σ H' => ∃ v5 v6 v7, σ = [some (.ref a), some (.ref L), some (.ref S), some (.int c), some (.ref Q), v5, v6, v7] ∧ LyR H0 H' L (.frz od (.dT (dk layer))) S Q (lyF n (layer.take i) (seen, later)).1 (lyF n (layer.take i) (seen, later)).2) ⟨v5, v6, v7, rfl, r⟩ (fun i σ H' _ ⟨_, _, _, _, h⟩ => h.l) (fun i y σ H1 H2 hi hP hY => ?_) fun σ H' ⟨w5, w6, w7, e, h⟩ => ?_
  · obtain ⟨w5, w6, w7, rfl, r1⟩ := hP
    obtain ⟨rfl, k, v, q, hk, rfl, hq⟩ := hY
    have hi : i < layer.length := by rw [dk_len] at hi; exact hi
    have hxi := List.getElem?_eq_getElem hi
    generalize layer[i] = x at hxi
    have hx := hl x (List.mem_of_getElem? hxi)
    have ek : k = tk x := by
      unfold dk at hk
      rw [List.getElem?_map, hxi] at hk
      cases hk
      rfl
    subst ek
    rw [tk_kV] at hq
    have st := take_snoc hxi
    obtain ⟨l1, l2⟩ := lyF_len n (layer.take i) (seen, later)
    have lt : (layer.take i).length = i := by rw [List.length_take]; omega
    rw [lt] at l1 l2
    have mi : i * n + n ≤ layer.length * n := by
      rw [← Nat.succ_mul]
      exact Nat.mul_le_mul_right _ hi
    have l1 : (lyF n (layer.take i) (seen, later)).1.length ≤ seen.length + i * n := l1
    have l2 : (lyF n (layer.take i) (seen, later)).2.length ≤ later.length + i * n := l2
    rw [st, lyF_snoc]
    generalize lyF n (layer.take i) (seen, later) = sti at *
    refine ⟨.ref a, rfl, a, o.map iV, rfl, .inl (r1.old.seq sq), _, 1, rfl, rfl, 2, _, rfl, ⟨by omega, by omega, by rw [List.length_map]; omega, by rw [List.length_map]; omega⟩, ?_⟩
    rw [show (((o.map iV).length : Int) + 1 - 2).toNat = n - 1 by rw [List.length_map]; omega]
    refine for_it walk_range (fun j σ H' => ∃ v6 v7, σ = [some (.ref a), some (.ref L), some (.ref S), some (.int c), some (.ref Q), some (.ref q), v6, v7] ∧ H' q = some (.tup (x.map iV)) ∧ LyR H0 H' L (.frz od (.dT (dk layer))) S Q (lyOne ((nbr n x).take j) sti).1 (lyOne ((nbr n x).take j) sti).2) ⟨w6, w7, rfl, hq, r1⟩ (fun _ _ _ _ _ => True.intro) (fun j z σ H2 H3 hj hP hY => ?_) fun σ H' ⟨w6, w7, e, h1, h2⟩ => ?_
    · obtain ⟨w6, w7, rfl, h1, h2⟩ := hP
      obtain ⟨rfl, rfl⟩ := hY
      obtain ⟨m1, m2⟩ := lyOne_len ((nbr n x).take j) sti
      have lj : ((nbr n x).take j).length ≤ n - 1 := by rw [List.length_take, nbr_len]; omega
      exact lyIn_t (v7 := w7) hj hx h2 h1 (by omega) (by omega) fun H' v7 r' q' => ⟨_, v7, rfl, q', r'⟩
    · subst e
      rw [List.take_of_length_le (by rw [nbr_len]; exact Nat.le_refl _)] at h2
      exact ⟨_, w6, w7, rfl, h2⟩
  · subst e
    rw [List.take_of_length_le (by rw [dk_len]; exact Nat.le_refl _)] at h
    exact hd H' w5 w6 w7 h
end
def natsOf : List D → Option (List Nat)
  | [] => some []
  | .int i :: ds => if 0 ≤ i then (natsOf ds).map (i.toNat :: ·) else none
  | _ => none
def lyOf (o : List Nat) : Option Nat := if 1 ≤ o.length ∧ o.length < 6 then lyGo (nbr o.length) o 9 [List.range o.length] [List.range o.length] 0 else none
def lyM : MS := fun ρ => match ρ with
  | [some (.list ds), none, none, none, none, none, none, none] => ((natsOf ds).bind lyOf).map fun (c : Nat) => (.rt (.int (c : Int)), [some (.list ds), none, none, none, none, none, none, none])
  | _ => none
theorem nats_rp {K : PySem.W.Frag} {F : Hp} : ∀ {ds : List D} {o : List Nat} {xs : List V}, natsOf ds = some o → RpA K F ds xs → xs = o.map iV
  | [], o, xs, h, r => by
    cases h
    exact r
  | d :: ds, o, xs, h, r => by
    obtain ⟨v, vs, rfl, r1, r2⟩ := r
    cases d <;> first | (cases h; done) | skip
    rename_i i
    unfold natsOf at h
    split at h
    · rename_i hi
      obtain ⟨o', h1, rfl⟩ := map_some h
      have r1 : v = V.int i := r1
      rw [nats_rp h1 r2, r1, List.map_cons]
      show V.int i :: _ = V.int ((i.toNat : Nat) : Int) :: _
      rw [Int.toNat_of_nonneg hi]
    · cases h
abbrev O8 : List Kd := [.fz, .fz, .fz, .fz, .fz, .fz, .fz, .fz]
section
variable {K : PySem.W.Frag} {F H : Hp}
theorem o8_fz {i : Nat} {k : Kd} (h : O8[i]? = some k) : k = .fz := by
  have h := List.mem_of_getElem? h
  simpa using h
theorem o8_fp {w : Wd} {p : Addr} : ¬ Fp O8 w p := fun ⟨i, k, d, h1, h2, _⟩ => by
  rw [o8_fz h1] at h2
  cases h2
theorem o8_ok {H' : Hp} {d : D} {v : V} {x1 x2 x3 x4 x5 x6 x7 y1 y2 y3 y4 y5 y6 y7 : Option V} (ok : Ok K O8 ⟨F, H, [some v, x1, x2, x3, x4, x5, x6, x7], [some d, none, none, none, none, none, none, none]⟩) (e : Same H H') : Ok K O8 ⟨F, H', [some v, y1, y2, y3, y4, y5, y6, y7], [some d, none, none, none, none, none, none, none]⟩ := by
  refine ⟨fun a o h => e a o (ok.sub a o h), rfl, rfl, fun i d' h1 h3 => ?_, fun i k d' h1 h2 h3 => ?_, fun i j p h1 _ => (o8_fp ⟨i, h1⟩).elim, fun z => (by cases z), fun P hP => ?_⟩
  · match i, h3 with
    | 0, h3 =>
      obtain ⟨v', e1, r⟩ := ok.fz 0 d' h1 h3
      exact ⟨v', e1, r⟩
    | 1, h3 => cases h3
    | 2, h3 => cases h3
    | 3, h3 => cases h3
    | 4, h3 => cases h3
    | 5, h3 => cases h3
    | 6, h3 => cases h3
    | 7, h3 => cases h3
  · rw [o8_fz h1] at h2
    cases h2
  · obtain ⟨⟨ps, t1, t2, t3⟩, t4⟩ := ok.tb P hP
    refine ⟨⟨ps, e _ _ t1, t2, fun pos cv hc => ?_⟩, t4⟩
    obtain ⟨c, h1, h2⟩ := t3 pos cv hc
    exact ⟨c, h1, e _ _ h2⟩
theorem o8_st {H' : Hp} {σ σ' : L2.St} {ρ : En} (e : Same H H') : StpS O8 ⟨F, H, σ, ρ⟩ ⟨F, H', σ', ρ⟩ := by
  refine ⟨Same.refl _, fun b o h _ _ => KH.of (e b o h), fun b o h _ hF => hF, fun b hb => (o8_fp hb).elim, fun i k e1 e2 => ?_, fun i k e1 e2 => ?_, fun i k p d e1 e2 => ?_, fun z => (by cases z), fun P hP => ?_⟩
  · exact absurd e2 (by rw [o8_fz e1]; decide)
  · exact absurd e2 (by rw [o8_fz e1]; decide)
  · exact absurd e2 (by rw [o8_fz e1]; decide)
  · obtain ⟨ps, t1, t2, t3⟩ := hP
    refine ⟨ps, e _ _ t1, t2, fun pos cv hc => ?_⟩
    obtain ⟨c, h1, h2⟩ := t3 pos cv hc
    exact ⟨c, h1, e _ _ h2⟩
theorem rgV_range {n : Nat} : rgV 0 (n : Int) = (List.range n).map iV := by
  unfold rgV
  rw [show ((n : Int) - 0).toNat = n by omega]
  refine List.map_congr_left fun i _ => ?_
  rw [Int.zero_add]
structure LyW (H0 H : Hp) (L S : Addr) (n c : Nat) (layer seen : List (List Nat)) : Prop where
  l : H L = some (.dT (dk layer))
  s : H S = some (.dT (dk seen))
  ne : L ≠ S
  f1 : H0 L = none
  f2 : H0 S = none
  old : Same H0 H
  ln : ∀ x, x ∈ layer → x.length = n
  b1 : layer.length ≤ 6 ^ c
  b2 : seen.length ≤ 2 * 6 ^ c
theorem ly_body {D : Ends} {H0 : Hp} {a L S : Addr} {n c : Nat} {o : List Nat} {layer seen : List (List Nat)} {v4 v5 v6 v7 : Option V} (sq : SqL K H0 a (o.map iV)) (ho : o.length = n) (hn : n < 6) (hc : c < 9) (r : LyW H0 H L S n c layer seen)
    (hd : ∀ (H' : Hp) (P : Addr) (v4 v5 v6 v7 : Option V), LyW H0 H' P S n (c + 1) (lyF n layer (seen, [])).2 (lyF n layer (seen, [])).1 → D.nx [some (.ref a), some (.ref P), some (.ref S), some (.int ((c + 1 : Nat) : Int)), v4, v5, v6, v7] H') :
    tLyBody K D [some (.ref a), some (.ref L), some (.ref S), some (.int (c : Int)), v4, v5, v6, v7] H := by
  have p1 : 6 ^ (c + 1) = 6 ^ c * 6 := Nat.pow_succ ..
  have p8 : 6 ^ c ≤ 6 ^ 8 := Nat.pow_le_pow_right (by decide) (by omega)
  have p8v : 6 ^ 8 = 1679616 := by decide
  have hm : layer.length * n ≤ 6 ^ c * 5 := Nat.mul_le_mul r.b1 (by omega)
  have sz := sizeLine_eq
  have b1 := r.b1
  have b2 := r.b2
  intro P hP
  have nL : L ≠ P := fun z => by rw [← z, r.l] at hP; cases hP
  have nS : S ≠ P := fun z => by rw [← z, r.s] at hP; cases hP
  have g0 : Same H (upd H P (.dT [])) := same_newT hP
  have hP0 : H0 P = none := by
    cases e : H0 P with
    | none => rfl
    | some u =>
      rw [r.old P u e] at hP
      cases hP
  refine ⟨L, .dT (dk layer), g0 _ _ r.l, True.intro, fun od => ?_⟩
  have R0 : LyR H0 (upd (upd H P (.dT [])) L (.frz od (.dT (dk layer)))) L (.frz od (.dT (dk layer))) S P seen [] := by
    refine ⟨upd_same, ?_, ?_, r.ne, nL, nS, r.f1, r.f2, hP0, fun b u e => ?_, fun z hz => (by cases hz)⟩
    · rw [L2.upd_ne r.ne.symm, L2.upd_ne nS]
      exact r.s
    · rw [L2.upd_ne nL.symm, upd_same]
      rfl
    · have e1 : b ≠ L := fun z => by rw [z, r.f1] at e; cases e
      rw [L2.upd_ne e1]
      exact g0 _ _ (r.old b u e)
  refine lyFor_t sq ho (by omega) r.ln R0 (by omega) (by rw [List.length_nil]; omega) fun H' w5 w6 w7 R1 => ⟨R1.l, ?_⟩
  obtain ⟨l1, l2⟩ := lyF_len n layer (seen, [])
  have l1 : (lyF n layer (seen, [])).1.length ≤ seen.length + layer.length * n := l1
  have l2 : (lyF n layer (seen, [])).2.length ≤ 0 + layer.length * n := l2
  have mem := lyF_mem (n := n) (ly := layer) (st := (seen, [])) r.ln fun x hx => by cases hx
  refine ⟨.ref P, rfl, .int (c : Int), rfl, (c : Int), 1, rfl, rfl, ?_⟩
  refine hd (upd H' L (.dT (dk layer))) P (some (.ref P)) w5 w6 w7 ⟨?_, ?_, R1.n3.symm, R1.f3, R1.f2, fun b u e => ?_, mem, by omega, by omega⟩
  · rw [L2.upd_ne R1.n2.symm]
    exact R1.p
  · rw [L2.upd_ne R1.n1.symm]
    exact R1.s
  · have e1 : b ≠ L := fun z => by rw [z, r.f1] at e; cases e
    rw [L2.upd_ne e1]
    exact R1.old b u e
theorem ly_t {D : Ends} {σ : L2.St} (h : tS K O8 lyM .fz D σ H) : tLayers K D σ H := by
  obtain ⟨F, ρ, fl, ρ', ok, hm, q⟩ := h
  unfold lyM at hm
  split at hm
  · rename_i ds
    obtain ⟨out, hout, e⟩ := map_some hm
    cases e
    obtain ⟨o, ho, hly⟩ := Option.bind_eq_some_iff.mp hout
    unfold lyOf at hly
    split at hly
    · rename_i hl
      obtain ⟨n, hn⟩ : ∃ n, o.length = n := ⟨_, rfl⟩
      rw [hn] at hly hl
      have lσ : σ.length = 8 := ok.ls
      obtain ⟨vc, e0, r0⟩ := ok.fz 0 _ rfl rfl
      have e0 : σ[0]? = some (some vc) := e0
      obtain ⟨a, xs, rfl, sq, rx⟩ := r0
      rw [nats_rp ho rx] at sq
      obtain ⟨x1, x2, x3, x4, x5, x6, x7, rfl⟩ : ∃ x1 x2 x3 x4 x5 x6 x7, σ = [some (V.ref a), x1, x2, x3, x4, x5, x6, x7] := by
        match σ, lσ, e0 with
        | [y0, y1, y2, y3, y4, y5, y6, y7], _, e0 =>
          cases e0
          exact ⟨y1, y2, y3, y4, y5, y6, y7, rfl⟩
      have s0 : Same F H := ok.sub
      have sqH : SqL K H a (o.map iV) := s0.seq sq
      intro p hp
      have g1 : Same H (upd H p (.dT [])) := same_newT hp
      refine ⟨.ref a, rfl, a, o.map iV, rfl, .inl (g1.seq sqH), ((o.map iV).length : Int), rfl, ⟨by omega, by omega, by omega, by rw [List.length_map]; omega, by rw [List.length_map]; omega⟩, fun T hT => ?_⟩
      rw [List.length_map, hn, rgV_range]
      have nT : T ≠ p := fun z => by rw [z, upd_same] at hT; cases hT
      refine ⟨by rw [L2.upd_ne nT.symm, upd_same], T, tk (List.range n), rfl, by rw [upd_same, tk_kV], ?_⟩
      have g2 : Same H (upd (upd (upd H p (.dT [])) T (.tup ((List.range n).map iV))) p (.dT [(tk (List.range n), .bl true)])) := fun b u e => by
        have e1 : b ≠ p := fun z => by rw [z, hp] at e; cases e
        have e2 : b ≠ T := fun z => by
          rw [← z, L2.upd_ne e1, e] at hT
          cases hT
        rw [L2.upd_ne e1, L2.upd_ne e2, L2.upd_ne e1]
        exact e
      have l0 : (upd (upd (upd H p (.dT [])) T (.tup ((List.range n).map iV))) p (.dT [(tk (List.range n), .bl true)])) p = some (.dT (dk [List.range n])) := upd_same
      generalize upd (upd (upd H p (.dT [])) T (.tup ((List.range n).map iV))) p (.dT [(tk (List.range n), .bl true)]) = H1 at *
      refine ⟨.ref p, rfl, p, tk (List.range n), .bl true, rfl, .inl l0, fun S hS => ?_⟩
      have nS : p ≠ S := fun z => by rw [← z, l0] at hS; cases hS
      have g3 : Same H1 (upd H1 S (.dT [(tk (List.range n), .bl true)])) := same_newT hS
      have hS0 : H S = none := by
        cases e : H S with
        | none => rfl
        | some u =>
          rw [g2 S u e] at hS
          cases hS
      have w0 : LyW H (upd H1 S (.dT [(tk (List.range n), .bl true)])) p S n 0 [List.range n] [List.range n] := by
        refine ⟨g3 _ _ l0, upd_same, nS, hp, hS0, fun b u e => g3 _ _ (g2 b u e), fun x hx => ?_, Nat.le_refl _, by rw [List.length_singleton]; decide⟩
        rw [List.mem_singleton.mp hx, List.length_range]
      generalize upd H1 S (.dT [(tk (List.range n), .bl true)]) = H2 at *
      refine ⟨fun m σ' H' => ∃ (c : Nat) (L : Addr) (layer seen : List (List Nat)) (v4 v5 v6 v7 : Option V), σ' = [some (.ref a), some (.ref L), some (.ref S), some (.int (c : Int)), v4, v5, v6, v7] ∧ LyW H H' L S n c layer seen ∧ lyGo (nbr n) o m layer seen c = some out ∧ c + m = 9,
        ⟨9, 0, p, [List.range n], [List.range n], x4, x5, x6, x7, rfl, w0, hly, rfl⟩, ?_⟩
      rintro m σ' H' ⟨cc, L, layer, seen, v4, v5, v6, v7, rfl, w, hg, hcm⟩
      cases m with
      | zero => cases hg
      | succ m =>
        refine ⟨.ref a, rfl, .inl ⟨a, o.map iV, rfl, w.old.seq sqH, fun t ht => ⟨.ref S, rfl, S, valV (dk seen) (tk o), rfl, DGet.t ?_ ?_, _, rfl, ?_⟩⟩⟩
        · exact (same_newT ht) _ _ w.s
        · rw [upd_same, tk_kV]
        · rw [dk_some]
          have gt : Same H' (upd H' t (.tup (o.map iV))) := same_newT ht
          have wt : LyW H (upd H' t (.tup (o.map iV))) L S n cc layer seen := ⟨gt _ _ w.l, gt _ _ w.s, w.ne, w.f1, w.f2, fun b u e => gt _ _ (w.old b u e), w.ln, w.b1, w.b2⟩
          generalize upd H' t (.tup (o.map iV)) = H3 at *
          by_cases hs : o ∈ seen
          · unfold lyGo at hg
            rw [if_pos hs] at hg
            cases hg
            rw [decide_eq_true hs]
            show tRet (tVar 3) D _ H3
            exact ⟨_, rfl, q _ [some (.ref a), some (.ref L), some (.ref S), some (.int (out : Int)), v4, v5, v6, v7] F H3 (o8_ok ok wt.old) (o8_st wt.old) rfl⟩
          · unfold lyGo at hg
            rw [if_neg hs] at hg
            rw [decide_eq_false hs]
            refine ⟨fun σ4 H4 => ∃ (c : Nat) (L : Addr) (layer seen : List (List Nat)) (v4 v5 v6 v7 : Option V), σ4 = [some (.ref a), some (.ref L), some (.ref S), some (.int (c : Int)), v4, v5, v6, v7] ∧ LyW H H4 L S n c layer seen ∧ lyGo (nbr n) o m layer seen c = some out ∧ c + m = 9, fun σ4 H4 z => ⟨m, Nat.lt_succ_self m, z⟩, ?_⟩
            refine ly_body sqH hn hl.2 (by omega) wt fun H' P w4 w5 w6 w7 wn => ?_
            exact ⟨cc + 1, P, _, _, w4, w5, w6, w7, rfl, wn, hg, by omega⟩
    · cases hly
  · cases hm
theorem up1 {a b : Nat} (h : a + 65 < b) : a + 1 < b := by omega
theorem up3 {a b : Nat} (h : a + 65 < b) : a + 3 < b := by omega
theorem ix_listK {X : Cx} : IxR X (rIxL X.K) := L2.ix_list
theorem call_lenQ {X : Cx} : CallR X (.builtin "len") (rLenQ X.K) := call_len_seq
theorem call_lstQ {X : Cx} : CallR X (.type "list") (rLstQ X.K) := call_list_of
theorem call_dictT1q {X : Cx} (hu : X.A.units + 3 < cLine) : CallR X (.type "dict") rDictT1 := call_dictT1 hu
theorem e_callSp {X : Cx} {sp : Sp} {x : Str} {p pos : Pos} {e : Expr} {es : List Expr} {t : TA} {j k : Nat} {ps : List Str} (h : FnX X.prog X.w X.K X.mg X.base x k ps sp) (hgd : X.A.guards = some []) (hr : Room j X.A) (ha : PA X (e :: es) t) (hj : k ≤ j := by decide)
    (hg : Gl X x := by rfl) (hdb : (x == ("__debug__" : Str)) = false := by decide) (he : starEach (e :: es) X.env = (false, eval e X.env) :: starEach es X.env := by rfl) (hpl : (backTo pos (starEach es X.env)).any (·.1) = false := by rfl) :
    PE X (.Call (.Name x p) (e :: es) [] pos) (tCall sp [] (fun _ _ _ => False) t) := by
  obtain ⟨f, fd, G, h1, h2, h3⟩ := h.ex
  exact pe_callG G hgd (hr.mono hj) h1 h2 h3 .nil (pass0 (X := X)) ha hg hdb he hpl
end
def micro (c : Code) (m : Mc) : Option Mc := if m.last = .on then (c[m.at_]?).bind fun r => if r.isPseudo = true then (passStep c m).bind fun z => (match z with
    | .go m' => some m'
    | _ => none) else (doneM c r m.grown).bind fun z => kindM c r.line z.2 z.1 else none
def mics (c : Code) : Nat → Mc → Option Mc
  | 0, m => some m
  | n + 1, m => (micro c m).bind (mics c n)
theorem mics_add {c : Code} {b : Nat} : ∀ {a : Nat} {m : Mc}, mics c (a + b) m = (mics c a m).bind (mics c b)
  | 0, m => by rw [Nat.zero_add]; rfl
  | a + 1, m => by
    rw [Nat.succ_add]
    show (micro c m).bind (mics c (a + b)) = ((micro c m).bind (mics c a)).bind (mics c b)
    rw [Option.bind_assoc]
    congr 1
    funext x
    exact mics_add
theorem mics_one {c : Code} {m : Mc} : mics c 1 m = micro c m := by
  show (micro c m).bind (mics c 0) = _
  cases micro c m <;> rfl
theorem micro_on {c : Code} {m m' : Mc} (h : micro c m = some m') : m.last = .on := by
  unfold micro at h
  split at h
  · assumption
  · cases h
def NP (c : Code) (m : Mc) : Prop := ∃ r, c[m.at_]? = some r ∧ r.isPseudo = false
theorem pass_pseudo {c : Code} {m : Mc} {r : Row} {z : WR Mc Unit} (hr : c[m.at_]? = some r) (h : passStep c m = some z) : (∃ m', z = .go m' ∧ r.isPseudo = true ∧ m'.last = m.last ∧ m'.out = m.out ∧ m'.trail = m.trail) ∨ (z = .stop m ∧ r.isPseudo = false) := by
  unfold passStep at h
  rw [hr] at h
  cases r with
  | tri mk l =>
    have h : (if m.sh.length < 1000000 then some (WR.go { m with sh := (mk, (m.pile.length : Int)) :: m.sh, at_ := m.at_ + 1 }) else none) = some z := h
    split at h
    · cases h
      exact .inl ⟨_, rfl, rfl, rfl, rfl, rfl⟩
    · cases h
  | endtry l =>
    have h : (match m.sh with
      | [] => none
      | _ :: g => some (WR.go { m with sh := g, at_ := m.at_ + 1 })) = some z := h
    split at h
    · cases h
    · cases h
      exact .inl ⟨_, rfl, rfl, rfl, rfl, rfl⟩
  | label mk l =>
    cases h
    exact .inl ⟨_, rfl, rfl, rfl, rfl, rfl⟩
  | _ =>
    cases h
    exact .inr ⟨rfl, rfl⟩
theorem micro_out {c : Code} {m m' : Mc} (h : micro c m = some m') : (∃ t, m'.out = m.out ++ t) ∧ (m'.trail = m.trail ∨ m'.trail = m.trail ++ [m.at_]) ∧ (NP c m → m'.trail = m.trail ++ [m.at_]) := by
  have hl := micro_on h
  unfold micro at h
  rw [if_pos hl] at h
  obtain ⟨r, h1, h2⟩ := Option.bind_eq_some_iff.mp h
  by_cases hp : r.isPseudo = true
  · rw [if_pos hp] at h2
    obtain ⟨z, h3, h4⟩ := Option.bind_eq_some_iff.mp h2
    rcases pass_pseudo h1 h3 with ⟨m2, rfl, e2, e3, e4, e5⟩ | ⟨rfl, e2⟩
    · cases h4
      refine ⟨⟨[], by rw [e4, List.append_nil]⟩, .inl e5, fun hn => ?_⟩
      obtain ⟨r', q1, q2⟩ := hn
      rw [h1] at q1
      cases q1
      rw [hp] at q2
      cases q2
    · cases h4
  · rw [if_neg hp] at h2
    obtain ⟨⟨k, m2⟩, h3, h4⟩ := Option.bind_eq_some_iff.mp h2
    obtain ⟨a1, t, a2⟩ := done_out h3
    have b : m'.trail = m2.trail ∧ m'.out = m2.out := by
      cases k with
      | none =>
        cases h4
        exact ⟨rfl, rfl⟩
      | some k => exact fault_out h4
    have e : m'.trail = m.trail ++ [m.at_] := b.1.trans a1
    exact ⟨⟨t, b.2.trans a2⟩, .inr e, fun _ => e⟩
theorem mics_out {c : Code} : ∀ {n : Nat} {m m' : Mc}, mics c n m = some m' → (∃ t, m'.out = m.out ++ t) ∧ m.trail.length ≤ m'.trail.length
  | 0, m, m', h => by
    cases h
    exact ⟨⟨[], (List.append_nil _).symm⟩, Nat.le_refl _⟩
  | n + 1, m, m', h => by
    obtain ⟨m2, h1, h2⟩ := Option.bind_eq_some_iff.mp h
    obtain ⟨⟨t, a⟩, b, _⟩ := micro_out h1
    obtain ⟨⟨t2, a2⟩, b2⟩ := mics_out h2
    refine ⟨⟨t ++ t2, by rw [a2, a, List.append_assoc]⟩, ?_⟩
    rcases b with b | b
    · rw [b] at b2
      exact b2
    · rw [b, List.length_append] at b2
      omega
def Agr (m' m : Mc) : Prop := (m.last = .on → ∃ t, m'.out = m.out ++ t) ∧ (m.last ≠ .on → m'.last = m.last ∧ m'.out = m.out ∧ m'.trail.length ≤ m.trail.length)
def Tells (c c' : Code) : Prop := ∀ (w : List (Str × Val)) (s : Nat) (m m' : Mc), runM c w s = some m → runM c' w s = some m' → Agr m' m
structure Sim (c c' : Code) (R : Mc → Mc → Prop) : Prop where
  out : ∀ m m', R m m' → m'.out = m.out ∧ m'.last = m.last
  go : ∀ m m' mx, R m m' → micro c m = some mx → ∃ a m1 m2 b m2', mics c a m = some m1 ∧ m1.out = m.out ∧ micro c m1 = some m2 ∧ mics c' b m' = some m2' ∧ R m2 m2' ∧ m2'.trail.length + m.trail.length ≤ m2.trail.length + m'.trail.length
theorem Sim.run {c c' : Code} {R : Mc → Mc → Prop} (S : Sim c c' R) : ∀ (n : Nat) {k : Nat} {m m' mf : Mc}, k ≤ n → R m m' → mics c k m = some mf → ∃ k' mf', mics c' k' m' = some mf' ∧ mf'.out = mf.out ∧ (mf.last ≠ .on → mf'.last = mf.last) ∧ mf'.trail.length + m.trail.length ≤ mf.trail.length + m'.trail.length := by
  intro n
  induction n with
  | zero =>
    intro k m m' mf hk hR h
    cases k with
    | zero =>
      cases h
      exact ⟨0, m', rfl, (S.out m m' hR).1, fun _ => (S.out m m' hR).2, by omega⟩
    | succ k => omega
  | succ n ih =>
    intro k m m' mf hk hR h
    cases k with
    | zero =>
      cases h
      exact ⟨0, m', rfl, (S.out m m' hR).1, fun _ => (S.out m m' hR).2, by omega⟩
    | succ k =>
      obtain ⟨mx, h1, h2⟩ := Option.bind_eq_some_iff.mp h
      obtain ⟨a, m1, m2, b, m2', g1, g2, g3, g4, g5, g6⟩ := S.go m m' mx hR h1
      by_cases ha : a ≤ k
      · have e : mics c (k - a) m2 = some mf := by
          have h0 : mics c (k + 1) m = some mf := h
          rw [show k + 1 = a + (1 + (k - a)) by omega, mics_add, g1] at h0
          have h0 : mics c (1 + (k - a)) m1 = some mf := h0
          rw [mics_add, mics_one, g3] at h0
          exact h0
        obtain ⟨k', mf', q1, q2, q3, q4⟩ := ih (by omega) g5 e
        refine ⟨b + k', mf', ?_, q2, q3, by omega⟩
        rw [mics_add, g4]
        exact q1
      · have h0 : mics c (k + 1) m = some mf := h
        rw [show a = (k + 1) + (a - (k + 1)) by omega, mics_add, h0] at g1
        have g1 : mics c (a - (k + 1)) mf = some m1 := g1
        obtain ⟨⟨t, o1⟩, o2⟩ := mics_out h0
        obtain ⟨⟨t2, o3⟩, o4⟩ := mics_out g1
        have eo : mf.out = m.out := by
          rw [g2, o1] at o3
          have : m.out.length = (m.out ++ t ++ t2).length := congrArg List.length o3
          rw [List.length_append, List.length_append] at this
          have : t = [] := List.length_eq_zero_iff.mp (by omega)
          rw [o1, this, List.append_nil]
        have el : mf.last = .on := by
          cases hz : a - (k + 1) with
          | zero =>
            rw [hz] at g1
            cases g1
            exact micro_on g3
          | succ z =>
            rw [hz] at g1
            obtain ⟨y, y1, _⟩ := Option.bind_eq_some_iff.mp g1
            exact micro_on y1
        exact ⟨0, m', rfl, by rw [eo]; exact (S.out m m' hR).1, fun z => (z el).elim, by omega⟩
theorem Agr.trans {m1 m2 m3 : Mc} (h : Agr m2 m1) (k : Agr m3 m2) : Agr m3 m1 := by
  constructor
  · intro ho
    obtain ⟨t, e⟩ := h.1 ho
    by_cases h2 : m2.last = .on
    · obtain ⟨t2, e2⟩ := k.1 h2
      exact ⟨t ++ t2, by rw [e2, e, List.append_assoc]⟩
    · exact ⟨t, by rw [(k.2 h2).2.1, e]⟩
  · intro ho
    obtain ⟨a, b, d⟩ := h.2 ho
    obtain ⟨a2, b2, d2⟩ := k.2 (by rw [a]; exact ho)
    exact ⟨a2.trans a, b2.trans b, Nat.le_trans d2 d⟩
theorem Agr.refl {m : Mc} : Agr m m := ⟨fun _ => ⟨[], (List.append_nil _).symm⟩, fun _ => ⟨rfl, rfl, Nat.le_refl _⟩⟩
theorem Tells.refl {c : Code} : Tells c c := fun w s m m' h h' => by
  rw [h] at h'
  cases h'
  exact Agr.refl
theorem Tells.trans {c c' c'' : Code} (S : Sound c') (h : Tells c c') (k : Tells c' c'') : Tells c c'' := fun w s m m'' e e'' => by
  obtain ⟨m', e', _⟩ := run_total S w s
  exact (h w s m m' e e').trans (k w s m' m'' e' e'')
structure Like (A : Nat → Nat → Prop) (L : Nat → Prop) (m m' : Mc) : Prop where
  at_ : A m.at_ m'.at_
  pile : m'.pile = m.pile
  sh : m'.sh = m.sh
  held : m'.held = m.held
  out : m'.out = m.out
  last : m'.last = m.last
  marks : ∀ x, x ∈ m.sh → L x.1
theorem Like.of {A : Nat → Nat → Prop} {L : Nat → Prop} {a a' : Nat} {pile : List Val} {sh : List (Nat × Int)} {held : List (Str × Val)} {out : List Val} {tr tr' : List Nat} {last : End} (h : A a a') (hm : ∀ x, x ∈ sh → L x.1) : Like A L ⟨a, pile, sh, held, out, tr, last⟩ ⟨a', pile, sh, held, out, tr', last⟩ := ⟨h, rfl, rfl, rfl, rfl, rfl, hm⟩
theorem Like.grown {A : Nat → Nat → Prop} {L : Nat → Prop} {m m' : Mc} (h : Like A L m m') (ha : A (m.at_ + 1) (m'.at_ + 1)) : Like A L m.grown m'.grown := ⟨ha, h.pile, h.sh, h.held, h.out, h.last, h.marks⟩
section
variable {B : Nat} {σ : Nat → St} {s : St}
end
section
variable {rest : MS} {mo ma : M} {s t t1 t2 mk x4 x5 : D} {R R' : List Row} {o : Str} {a : D} {y5 : Option D}
end
def GenS (x : MS) (N M : Nat) : Prop := ∀ (ns : List Int) (t : D) (q : Nat) (rows : List Row) (b : Nat) (o4 o5 o6 : Option D), Town ns q t → q + M < 1000000 → rows.length + N < 1000000 → b + N < 1000000 →
  ∃ (t' : D) (F : List Row) (c : Nat) (o6' : Option D), x [some (dL ns), some t, some (rwD rows), some (mkD b), o4, o5, o6] = some (.nx, [some (dL ns), some t', some (rwD (rows ++ F)), some (mkD c), o4, o5, o6']) ∧ Town ns (q + M) t' ∧ FragP F b c 0 0 ∧ Num rows b N F c
theorem GenS.to {x : MS} {N M N' M' : Nat} (h : GenS x N M) (hN : N ≤ N') (hM : M ≤ M') : GenS x N' M' := by
  intro ns t q rows b o4 o5 o6 hT hq hr hb
  obtain ⟨t', F, c, o6', k1, k2, k3, k4⟩ := h ns t q rows b o4 o5 o6 hT (by omega) (by omega) (by omega)
  exact ⟨t', F, c, o6', k1, k2.up (by omega), k3, k4.to hN⟩
structure CnI (ns : List Int) (rows : List Row) (b q N : Nat) (k : Int) (o4 o5 : Option D) (ρ : En) : Prop where
  ex : ∃ t F o, ρ = [some (dL ns), some t, some (rwD (rows ++ F)), some (mkD b), o4, o5, o] ∧ Town ns q t ∧ FragP F b b 0 k ∧ Num rows b N F b
structure DnI (ns : List Int) (q N : Nat) (ρ : En) : Prop where
  ex : ∃ t F c o4 o5 o6, ρ = [some (dL ns), some t, some (rwD F), some (mkD c), o4, o5, o6] ∧ Town ns q t ∧ FragP F 0 c 0 0 ∧ Num [] 0 N F c
theorem town_eq {ns : List Int} (hn : ns.length ≤ 63) : ∃ t, f__law_town [some (dL ns)] = some (t, [none]) ∧ Town ns 0 t := by
  obtain ⟨d, o, e, rfl, h⟩ := town_ok hn
  exact ⟨d, e, h⟩
theorem ne_same {i : Int} : dNeU [.int i, .int i] = some (.bool false) := by
  rw [dNe_of (Eq0.int (n := 0)) (Eq0.int (n := 0))]
  simp [PyData.eqv]
structure TlI (ns : List Int) (c c' : Code) (q : Nat) (ρ : En) : Prop where
  ex : ∃ t o4 o5 o6, ρ = [some (dL ns), some t, some c.d, some c'.d, o4, o5, o6] ∧ Town ns q t
def isLab (c : Code) (i : Nat) : Bool := match c[i]? with
  | some r => r.isLabel
  | none => false
def lsk (c : Code) : Nat → Nat → Nat
  | 0, i => i
  | n + 1, i => if isLab c i = true then lsk c n (i + 1) else i
def rowAt (c : Code) (mk : Nat) : Option Row := match (whereL c).lookup mk with
  | some p => c[lsk c c.length p]?
  | none => none
def JOp.isOr : JOp → Bool
  | .ortrue => true
  | .orfalse => true
  | _ => false
def canTh : JOp → JOp → Bool
  | .ortrue, .ortrue => true
  | .ortrue, .iftrue => true
  | .orfalse, .orfalse => true
  | .orfalse, .iffalse => true
  | _, _ => false
def nextR (o : JOp) : Row → Option (JOp × Nat)
  | .jmp o2 m2 _ => if o2 = .jump then some (o, m2) else if canTh o o2 = true then some (o2, m2) else none
  | _ => none
def nextJ (c : Code) (o : JOp) (mk : Nat) : Option (JOp × Nat) := (rowAt c mk).bind (nextR o)
def Row.canTh (o : JOp) : Row → Bool
  | .jmp o2 _ _ => DL.canTh o o2
  | _ => false
theorem canTh_or {o o2 : JOp} (h : canTh o o2 = true) : o.isOr = true ∧ o2 ≠ .jump := by
  cases o <;> cases o2 <;> first | (cases h; done) | exact ⟨rfl, fun h => by cases h⟩
abbrev GlS := List (JOp × Nat) × Option (JOp × Nat)
def glN (c : Code) : Nat → GlS → GlS
  | 0, s => s
  | n + 1, s => match s.2 with
    | none => s
    | some x => if x ∈ s.1 then s else glN c n (s.1 ++ [x], nextJ c x.1 x.2)
def goalJ (c : Code) (o : JOp) (mk : Nat) : JOp × Nat := match glN c 500 ([(o, mk)], nextJ c o mk) with
  | (seen, none) => seen.getLast?.getD (o, mk)
  | (_, some _) => (o, mk)
theorem nodup_le {α : Type} [DecidableEq α] : ∀ {xs ys : List α}, xs.Nodup → (∀ x, x ∈ xs → x ∈ ys) → xs.length ≤ ys.length
  | [], ys, _, _ => Nat.zero_le _
  | x :: xs, ys, h, hs => by
    obtain ⟨h1, h2⟩ := List.nodup_cons.mp h
    have hx := hs x List.mem_cons_self
    have := nodup_le (xs := xs) (ys := ys.erase x) h2 fun y hy => (List.mem_erase_of_ne (fun e : y = x => h1 (by rw [← e]; exact hy))).mpr (hs y (List.mem_cons_of_mem _ hy))
    rw [List.length_erase_of_mem hx] at this
    have := List.length_pos_of_mem hx
    rw [List.length_cons]
    omega
def allJ : List (JOp × Nat) := (List.range 100).flatMap fun m => [(.jump, m), (.iftrue, m), (.iffalse, m), (.ortrue, m), (.orfalse, m)]
theorem allJ_len : allJ.length = 500 := by decide +kernel
theorem allJ_mem {x : JOp × Nat} (h : x.2 ≤ 99) : x ∈ allJ := by
  obtain ⟨o, m⟩ := x
  refine List.mem_flatMap.mpr ⟨m, List.mem_range.mpr (by show m < 100; have : m ≤ 99 := h; omega), ?_⟩
  cases o <;> simp
theorem row_mark {c : Code} (h : CodeOk c) {o : JOp} {m l : Nat} (hr : Row.jmp o m l ∈ c) : m ≤ 99 ∧ ∃ p, (whereL c).lookup m = some p ∧ p < c.length := by
  have h1 := (h.rows _ hr).1
  have h1 : (decide (l ≤ 9999) && decide (m ≤ 99)) = true := h1
  simp only [Bool.and_eq_true, decide_eq_true_eq] at h1
  obtain ⟨i, hi⟩ := List.mem_iff_getElem?.mp hr
  obtain ⟨p, a, b⟩ := h.good.at hi rfl
  exact ⟨h1.2, p, a, b⟩
theorem rowAt_mem {c : Code} {mk : Nat} {r : Row} (h : rowAt c mk = some r) : r ∈ c := by
  unfold rowAt at h
  split at h
  · exact List.mem_of_getElem? h
  · cases h
theorem nextJ_row {c : Code} {o o2 : JOp} {mk m2 : Nat} (h : nextJ c o mk = some (o2, m2)) : ∃ o3 l, rowAt c mk = some (.jmp o3 m2 l) ∧ ((o3 = .jump ∧ o2 = o) ∨ (canTh o o3 = true ∧ o2 = o3)) := by
  obtain ⟨r, h1, h2⟩ := Option.bind_eq_some_iff.mp h
  cases r with
  | jmp o3 m3 l =>
    have h2 : (if o3 = .jump then some (o, m3) else if canTh o o3 = true then some (o3, m3) else none) = some (o2, m2) := h2
    split at h2
    · rename_i hz
      cases h2
      exact ⟨o3, l, h1, .inl ⟨hz, rfl⟩⟩
    · split at h2
      · rename_i hz
        cases h2
        exact ⟨o2, l, h1, .inr ⟨hz, rfl⟩⟩
      · cases h2
  | _ => cases h2
theorem nextJ_mark {c : Code} (h : CodeOk c) {o : JOp} {mk : Nat} {x : JOp × Nat} (hx : nextJ c o mk = some x) : x.2 ≤ 99 ∧ ∃ p, (whereL c).lookup x.2 = some p ∧ p < c.length := by
  obtain ⟨o3, l, h1, _⟩ := nextJ_row (o2 := x.1) (m2 := x.2) hx
  exact row_mark h (rowAt_mem h1)
structure GlI (c : Code) (s : GlS) : Prop where
  nodup : s.1.Nodup
  marks : ∀ x, x ∈ s.1 → x.2 ≤ 99
  next : ∀ x, s.2 = some x → x.2 ≤ 99 ∧ ∃ p, (whereL c).lookup x.2 = some p ∧ p < c.length
  ne : s.1 ≠ []
theorem GlI.go {c : Code} (h : CodeOk c) {s : GlS} (I : GlI c s) {x : JOp × Nat} (hx : s.2 = some x) (hn : x ∉ s.1) : GlI c (s.1 ++ [x], nextJ c x.1 x.2) := by
  refine ⟨?_, fun y hy => ?_, fun y hy => nextJ_mark h hy, by simp⟩
  · refine List.nodup_append.mpr ⟨I.nodup, by simp, fun a ha b hb e => ?_⟩
    rw [List.mem_singleton.mp hb] at e
    exact hn (e ▸ ha)
  · rcases List.mem_append.mp hy with hy | hy
    · exact I.marks y hy
    · rw [List.mem_singleton.mp hy]
      exact (I.next x hx).1
theorem GlI.len {c : Code} {s : GlS} (I : GlI c s) : s.1.length ≤ 500 := by
  have := nodup_le I.nodup fun x hx => allJ_mem (I.marks x hx)
  rwa [allJ_len] at this
def thrRow (c : Code) : Row → Row
  | .jmp o m l => .jmp (goalJ c o m).1 (goalJ c o m).2 l
  | r => r
structure ThI (c : Code) (rest : List D) (ρ : En) : Prop where
  ex : ∃ (a b : List Row) (o3 o4 o5 : Option D), c = a ++ b ∧ rest = b.map Row.d ∧ ρ = [some c.d, some (whD (whereL c)), some (rwD (a.map (thrRow c))), o3, o4, o5]
structure Goes (w : List (Nat × Nat)) (t : Nat → Option St) (r : Row) (i : Nat) (s : St) : Prop where
  fine : Fine r s
  fall : ∀ z, fallS r s = some z → t (i + 1) = some z
  jmp : r.isJmp = true → ∃ p, w.lookup r.mark = some p ∧ t p = some (goalS r s)
  flt : r.isFaulty = true → ∀ x g, s.g = x :: g → ∃ p, w.lookup x.1 = some p ∧ t p = some ⟨x.2 + 1, g⟩
theorem isJmp_or (r : Row) : r.isJmp = (r.isJump || r.isBranch) := by
  cases r with
  | jmp o m l => cases o <;> rfl
  | _ => rfl
theorem goes_of {w : List (Nat × Nat)} {t : Nat → Option St} {r : Row} {i n : Nat} {s : St} {l : List (Nat × St)} (h1 : lacks n w r i s = some []) (h2 : allNext w r i s = some l) (h3 : ∀ q, q ∈ l → t q.1 = some q.2) : Goes w t r i s := by
  unfold allNext at h2
  obtain ⟨l0, a1, a2⟩ := Option.bind_eq_some_iff.mp h2
  have sub : ∀ q, q ∈ l0 → t q.1 = some q.2 := fun q hq => h3 q (by
    cases hg : s.g with
    | nil =>
      rw [hg] at a2
      cases a2
      exact hq
    | cons x g =>
      rw [hg] at a2
      have a2 : (if r.isFaulty = true then (w.lookup x.1).map fun p => l0 ++ [(p, (⟨x.2 + 1, g⟩ : St))] else some l0) = some l := a2
      split at a2
      · obtain ⟨p, _, rfl⟩ := Option.map_eq_some_iff.mp a2
        exact List.mem_append_left _ hq
      · cases a2
        exact hq)
  unfold plainNext at a1
  refine ⟨fine_of h1, fun z hz => ?_, fun hj => ?_, fun hf x g hg => ?_⟩
  · unfold fallS at hz
    split at a1
    · rename_i h; rw [if_pos h] at hz; cases hz
    · rename_i h
      rw [if_neg h] at hz
      split at a1
      · rename_i h; rw [if_pos h] at hz; cases hz
        obtain ⟨p, _, rfl⟩ := Option.map_eq_some_iff.mp a1
        exact sub _ List.mem_cons_self
      · rename_i h
        rw [if_neg h] at hz
        split at a1
        · rename_i h; rw [if_pos h] at hz; cases hz; cases a1
          exact sub _ List.mem_cons_self
        · rename_i h
          rw [if_neg h] at hz
          split at a1
          · rename_i h; rw [if_pos h] at hz; cases hz; cases a1
            exact sub _ List.mem_cons_self
          · rename_i h
            rw [if_neg h] at hz
            split at a1
            · rename_i h; rw [if_pos h] at hz; cases hz
            · rename_i h; rw [if_neg h] at hz; cases hz; cases a1
              exact sub _ List.mem_cons_self
  · unfold goalS
    cases hJ : r.isJump with
    | true =>
      rw [if_pos hJ] at a1
      obtain ⟨p, e1, rfl⟩ := Option.map_eq_some_iff.mp a1
      exact ⟨p, e1, by rw [if_pos rfl]; exact sub _ List.mem_cons_self⟩
    | false =>
      have hB : r.isBranch = true := by
        rw [isJmp_or, hJ] at hj
        exact hj
      rw [if_neg (by rw [hJ]; exact Bool.false_ne_true), if_pos hB] at a1
      obtain ⟨p, e1, rfl⟩ := Option.map_eq_some_iff.mp a1
      exact ⟨p, e1, by rw [if_neg Bool.false_ne_true]; exact sub (p, _) (List.mem_cons_of_mem _ List.mem_cons_self)⟩
  · rw [hg] at a2
    have a2 : (if r.isFaulty = true then (w.lookup x.1).map fun p => l0 ++ [(p, (⟨x.2 + 1, g⟩ : St))] else some l0) = some l := a2
    rw [if_pos hf] at a2
    obtain ⟨p, e1, rfl⟩ := Option.map_eq_some_iff.mp a2
    exact ⟨p, e1, h3 (p, _) (List.mem_append_right _ List.mem_cons_self)⟩
theorem Goes.next {w : List (Nat × Nat)} {t : Nat → Option St} {r : Row} {i n : Nat} {s : St} (g : Goes w t r i s) (hn : t n = none) : ∃ l, lacks n w r i s = some [] ∧ allNext w r i s = some l ∧ ∀ q, q ∈ l → t q.1 = some q.2 := by
  have main : ∃ l0, plainNext w r i s = some l0 ∧ ∀ q, q ∈ l0 → t q.1 = some q.2 := by
    have hf := g.fall
    have hj := g.jmp
    rw [isJmp_or] at hj
    unfold fallS at hf
    unfold goalS at hj
    unfold plainNext
    split
    · rename_i h
      obtain ⟨p, e1, e2⟩ := hj (by rw [h]; rfl)
      rw [if_pos h] at e2
      rw [e1]
      refine ⟨_, rfl, fun q hq => ?_⟩
      rw [List.mem_singleton.mp hq]
      exact e2
    · rename_i h
      rw [if_neg h] at hf
      split
      · rename_i h2
        obtain ⟨p, e1, e2⟩ := hj (by rw [h2, Bool.or_true])
        rw [if_neg h] at e2
        rw [e1]
        refine ⟨_, rfl, fun q hq => ?_⟩
        rw [if_pos h2] at hf
        simp only [List.mem_cons, List.not_mem_nil, or_false] at hq
        rcases hq with rfl | rfl
        · exact hf _ rfl
        · exact e2
      · rename_i h2
        rw [if_neg h2] at hf
        split
        · rename_i h3
          rw [if_pos h3] at hf
          refine ⟨_, rfl, fun q hq => ?_⟩
          rw [List.mem_singleton.mp hq]
          exact hf _ rfl
        · rename_i h3
          rw [if_neg h3] at hf
          split
          · rename_i h4
            rw [if_pos h4] at hf
            refine ⟨_, rfl, fun q hq => ?_⟩
            rw [List.mem_singleton.mp hq]
            exact hf _ rfl
          · rename_i h4
            rw [if_neg h4] at hf
            split
            · exact ⟨_, rfl, fun q hq => by cases hq⟩
            · rename_i h5
              rw [if_neg h5] at hf
              refine ⟨_, rfl, fun q hq => ?_⟩
              rw [List.mem_singleton.mp hq]
              exact hf _ rfl
  obtain ⟨l0, e1, e2⟩ := main
  have all : ∃ l, allNext w r i s = some l ∧ ∀ q, q ∈ l → t q.1 = some q.2 := by
    unfold allNext
    rw [e1]
    show ∃ l, (match s.g with
      | [] => some l0
      | x :: g => if r.isFaulty = true then (w.lookup x.1).map fun p => l0 ++ [(p, (⟨x.2 + 1, g⟩ : St))] else some l0) = some l ∧ _
    cases hg : s.g with
    | nil => exact ⟨l0, rfl, e2⟩
    | cons x gs =>
      show ∃ l, (if r.isFaulty = true then (w.lookup x.1).map fun p => l0 ++ [(p, (⟨x.2 + 1, gs⟩ : St))] else some l0) = some l ∧ _
      split
      · rename_i hf
        obtain ⟨p, f1, f2⟩ := g.flt hf x gs hg
        rw [f1]
        refine ⟨_, rfl, fun q hq => ?_⟩
        rcases List.mem_append.mp hq with hq | hq
        · exact e2 q hq
        · rw [List.mem_singleton.mp hq]
          exact f2
      · exact ⟨l0, rfl, e2⟩
  obtain ⟨l, f1, f2⟩ := all
  refine ⟨l, lacks_nil f1 g.fine fun q hq e => ?_, f1, f2⟩
  have := f2 q hq
  rw [e, hn] at this
  cases this
theorem Fits.at {c : Code} {t : Nat → Option St} (f : Fits c t) {i : Nat} {s : St} (h : t i = some s) : ∃ r, c[i]? = some r ∧ Goes (whereL c) t r i s := by
  obtain ⟨r, l, h1, h2, h3, h4⟩ := f.go i s h
  exact ⟨r, h1, goes_of h2 h3 h4⟩
theorem Snd.tab {c : Code} (S : Snd c) : ∃ t : Nat → Option St, Fits c t ∧ (∀ i s, t i = some s ↔ Reach c i s) ∧ ∃ tl, explored c = some (.inl tl) ∧ tl.length = c.length ∧ ∀ i, t i = (tl[i]?).join := by
  obtain ⟨tl, e, L⟩ := S.ex
  have hj : ∀ i s, (tl[i]?).join = some s ↔ Reach c i s := fun i s => by
    rw [← L.iff i s]
    cases tl[i]? with
    | none => exact ⟨fun h => (by cases h), fun h => (by cases h)⟩
    | some o => cases o with
      | none => exact ⟨fun h => (by cases h), fun h => (by cases h)⟩
      | some s' => exact ⟨fun h => (by cases h; rfl), fun h => (by cases h; rfl)⟩
  refine ⟨fun i => (tl[i]?).join, ⟨(hj 0 _).mpr ⟨[0], .base, rfl⟩, fun i s h => ?_⟩, hj, tl, e, L.len, fun i => rfl⟩
  have hr := (hj i s).mp h
  obtain ⟨r, l, h1, h2, h3⟩ := L.fits i s hr
  exact ⟨r, l, h1, h2, h3, fun q hq => (hj q.1 q.2).mpr (hr.next h1 h2 h3 hq)⟩
theorem micro_ps {c : Code} {m : Mc} {r : Row} (hl : m.last = .on) (h : c[m.at_]? = some r) (hp : r.isPseudo = true) : micro c m = (passStep c m).bind fun z => (match z with
    | .go m' => some m'
    | _ => none) := by
  unfold micro
  rw [if_pos hl, h, Option.bind_some, if_pos hp]
  all_goals rfl
theorem micro_np {c : Code} {m : Mc} {r : Row} (hl : m.last = .on) (h : c[m.at_]? = some r) (hp : r.isPseudo = false) : micro c m = (doneM c r m.grown).bind fun z => kindM c r.line z.2 z.1 := by
  unfold micro
  rw [if_pos hl, h, Option.bind_some, if_neg (by rw [hp]; exact Bool.false_ne_true)]
theorem micro_label {c : Code} {m : Mc} {mk l : Nat} (hl : m.last = .on) (h : c[m.at_]? = some (.label mk l)) : micro c m = some { m with at_ := m.at_ + 1 } := by
  rw [micro_ps hl h rfl]
  unfold passStep
  rw [h]
  rfl
theorem isLab_row {c : Code} {i : Nat} (h : isLab c i = true) : ∃ mk l, c[i]? = some (.label mk l) := by
  unfold isLab at h
  cases hr : c[i]? with
  | none => rw [hr] at h; cases h
  | some r =>
    rw [hr] at h
    cases r with
    | label mk l => exact ⟨mk, l, rfl⟩
    | _ => cases h
theorem lab_mics {c : Code} : ∀ (n : Nat) {m : Mc}, m.last = .on → ∃ k, mics c k m = some { m with at_ := lsk c n m.at_ }
  | 0, m, _ => ⟨0, rfl⟩
  | n + 1, m, hl => by
    unfold lsk
    by_cases h : isLab c m.at_ = true
    · obtain ⟨mk, l, hr⟩ := isLab_row h
      obtain ⟨k, e⟩ := lab_mics n (m := { m with at_ := m.at_ + 1 }) hl
      refine ⟨k + 1, ?_⟩
      rw [if_pos h]
      show (micro c m).bind (mics c k) = _
      rw [micro_label hl hr]
      exact e
    · rw [if_neg h]
      exact ⟨0, rfl⟩
theorem micro_jump {c : Code} {m : Mc} {mk l p : Nat} (hl : m.last = .on) (h : c[m.at_]? = some (.jmp .jump mk l)) (hp : (whereL c).lookup mk = some p) : micro c m = some { m with at_ := p, trail := m.trail ++ [m.at_] } := by
  rw [micro_np hl h rfl]
  show ((((whereL c).lookup mk).map fun q => ((none : Option Str), { m.grown with at_ := q })).bind fun z => kindM c l z.2 z.1) = _
  rw [hp]
  rfl
theorem micro_branch {c : Code} {m : Mc} {o : JOp} {mk l p : Nat} {v : Val} {ps : List Val} (ho : o ≠ .jump) (hl : m.last = .on) (h : c[m.at_]? = some (.jmp o mk l)) (hp : (whereL c).lookup mk = some p) (hv : m.pile = v :: ps) : micro c m = some { m with at_ := if o.takes v = true then p else m.at_ + 1, pile := if (o.takes v && !o.isIf) = true then v :: ps else ps, trail := m.trail ++ [m.at_] } := by
  obtain ⟨at_, pile, sh, held, out, trail, last⟩ := m
  have hv : pile = v :: ps := hv
  subst hv
  rw [micro_np hl h rfl]
  have hd : doneM c (.jmp o mk l) (Mc.grown ⟨at_, v :: ps, sh, held, out, trail, last⟩) = ((whereL c).lookup mk).map fun q => (none, Mc.mk (if o.takes v = true then q else at_ + 1) (if (o.takes v && !o.isIf) = true then v :: ps else ps) sh held out (trail ++ [at_]) last) := by
    cases o <;> first | rfl | exact (ho rfl).elim
  rw [hd, hp]
  rfl
inductive Chain (c : Code) (a : JOp × Nat) : JOp × Nat → Prop
  | refl : Chain c a a
  | step {x y : JOp × Nat} : Chain c a x → nextJ c x.1 x.2 = some y → Chain c a y
theorem Chain.mark {c : Code} (h : CodeOk c) {a y : JOp × Nat} (k : Chain c a y) (ha : a.2 ≤ 99 ∧ ∃ p, (whereL c).lookup a.2 = some p ∧ p < c.length) : y.2 ≤ 99 ∧ ∃ p, (whereL c).lookup y.2 = some p ∧ p < c.length := by
  cases k with
  | refl => exact ha
  | step _ h2 => exact nextJ_mark h h2
theorem canTh_takes {o o3 : JOp} (h : canTh o o3 = true) : o3.takes = o.takes := by
  funext v
  cases o <;> cases o3 <;> first | (cases h; done) | rfl
def plJ (o : JOp) (v : Val) (ps : List Val) : List Val := if o = .jump ∨ o.isIf = true then ps else v :: ps
theorem plJ_or {o : JOp} {v : Val} {ps : List Val} (h : o.isOr = true) : plJ o v ps = v :: ps := by
  cases o <;> first | (cases h; done) | rfl
theorem Chain.mics {c : Code} (ok : CodeOk c) {o : JOp} {mk : Nat} {v : Val} {ps : List Val} {y : JOp × Nat} (k : Chain c (o, mk) y) {m : Mc} (hl : m.last = .on) (hp : (whereL c).lookup mk = some m.at_) (hv : m.pile = plJ o v ps) (ht : o = .jump ∨ o.takes v = true) :
    ∃ (n : Nat) (tr : List Nat) (q : Nat), mics c n m = some { m with at_ := q, pile := plJ y.1 v ps, trail := tr } ∧ m.trail.length ≤ tr.length ∧ (whereL c).lookup y.2 = some q ∧ (y.1 = .jump ↔ o = .jump) ∧ y.1.takes = o.takes := by
  induction k with
  | refl => exact ⟨0, m.trail, m.at_, by rw [← hv]; rfl, Nat.le_refl _, hp, Iff.rfl, rfl⟩
  | @step x y _ h2 ih =>
    obtain ⟨n, tr, q, e1, e2, e3, e4, e5⟩ := ih
    obtain ⟨o3, l, r1, r2⟩ := nextJ_row (o2 := y.1) (m2 := y.2) h2
    have hr : c[lsk c c.length q]? = some (.jmp o3 y.2 l) := by
      unfold rowAt at r1
      rw [e3] at r1
      exact r1
    obtain ⟨_, p2, f1, _⟩ := row_mark ok (List.mem_of_getElem? hr)
    obtain ⟨n2, g1⟩ := lab_mics (c := c) c.length (m := { m with at_ := q, pile := plJ x.1 v ps, trail := tr }) hl
    have add : ∀ z, micro c { m with at_ := lsk c c.length q, pile := plJ x.1 v ps, trail := tr } = some z → DL.mics c (n + (n2 + 1)) m = some z := fun z hz => by
      rw [mics_add, e1, Option.bind_some, mics_add, g1, Option.bind_some, mics_one]
      exact hz
    rcases r2 with ⟨rfl, r2⟩ | ⟨r2, r3⟩
    · refine ⟨n + (n2 + 1), tr ++ [lsk c c.length q], p2, add _ ?_, by rw [List.length_append]; omega, f1, by rw [r2]; exact e4, by rw [r2]; exact e5⟩
      rw [r2]
      exact micro_jump (m := { m with at_ := lsk c c.length q, pile := plJ x.1 v ps, trail := tr }) hl hr f1
    · obtain ⟨k1, k2⟩ := canTh_or r2
      have hx : x.1 ≠ .jump := fun z => by rw [z] at k1; cases k1
      have ho : o ≠ .jump := fun z => hx (e4.mpr z)
      have tv : o3.takes v = true := by
        rw [canTh_takes r2, e5]
        rcases ht with ht | ht
        · exact (ho ht).elim
        · exact ht
      refine ⟨n + (n2 + 1), tr ++ [lsk c c.length q], p2, add _ ?_, by rw [List.length_append]; omega, f1, ⟨fun z => (k2 (r3 ▸ z)).elim, fun z => (ho z).elim⟩, by rw [r3, canTh_takes r2, e5]⟩
      rw [r3, micro_branch (m := { m with at_ := lsk c c.length q, pile := plJ x.1 v ps, trail := tr }) (v := v) (ps := ps) k2 hl hr f1 (plJ_or k1), tv]
      rw [if_pos rfl, Bool.true_and]
      have : (if (!o3.isIf) = true then v :: ps else ps) = plJ o3 v ps := by
        cases o3 <;> first | rfl | exact (k2 rfl).elim
      rw [this]
theorem lab_fits {c : Code} {t : Nat → Option St} (f : Fits c t) {s : St} : ∀ {n i : Nat}, t i = some s → t (lsk c n i) = some s
  | 0, i, h => h
  | n + 1, i, h => by
    unfold lsk
    by_cases hb : isLab c i = true
    · rw [if_pos hb]
      obtain ⟨mk, l, hr⟩ := isLab_row hb
      obtain ⟨r, h1, g⟩ := f.at h
      rw [hr] at h1
      cases h1
      refine lab_fits f (n := n) ?_
      rw [g.fall ⟨s.d + 0, s.g⟩ rfl, Int.add_zero]
    · rw [if_neg hb]
      exact h
theorem goalS_mark {o : JOp} {m1 m2 l1 l2 : Nat} {s : St} : goalS (.jmp o m1 l1) s = goalS (.jmp o m2 l2) s := by
  cases o <;> rfl
theorem Chain.fits {c : Code} (ok : CodeOk c) {t : Nat → Option St} (f : Fits c t) {o : JOp} {mk l0 p : Nat} {y : JOp × Nat} (k : Chain c (o, mk) y) {s : St} (hp : (whereL c).lookup mk = some p) (ht : t p = some (goalS (.jmp o mk l0) s)) : ∃ q, (whereL c).lookup y.2 = some q ∧ t q = some (goalS (.jmp y.1 y.2 l0) s) ∧ (y.1 = .jump ↔ o = .jump) := by
  induction k with
  | refl => exact ⟨p, hp, ht, Iff.rfl⟩
  | @step x y _ h2 ih =>
    obtain ⟨q, e1, e2, e3⟩ := ih
    obtain ⟨o3, l, r1, r2⟩ := nextJ_row (o2 := y.1) (m2 := y.2) h2
    have hr : c[lsk c c.length q]? = some (.jmp o3 y.2 l) := by
      unfold rowAt at r1
      rw [e1] at r1
      exact r1
    obtain ⟨r, h1, g⟩ := f.at (lab_fits f (n := c.length) e2)
    rw [hr] at h1
    cases h1
    obtain ⟨p2, f1, f2⟩ := g.jmp rfl
    refine ⟨p2, f1, ?_, ?_⟩
    · rw [f2]
      rcases r2 with ⟨rfl, r2⟩ | ⟨r2, r3⟩
      · rw [r2]
        exact congrArg some (show goalS (.jmp x.1 x.2 l0) s = goalS (.jmp x.1 y.2 l0) s from goalS_mark)
      · rw [r3]
        have : ∀ o1 : JOp, canTh o1 o3 = true → goalS (.jmp o3 y.2 l) (goalS (.jmp o1 x.2 l0) s) = goalS (.jmp o3 y.2 l0) s := fun o1 h1 => by
          cases o1 <;> cases o3 <;> first
            | (cases h1; done)
            | exact congrArg (fun z => (⟨z, s.g⟩ : St)) (by show s.d - 0 - 0 = s.d - 0; omega)
            | exact congrArg (fun z => (⟨z, s.g⟩ : St)) (by show s.d - 0 - 1 = s.d - 1; omega)
        rw [this x.1 r2]
    · rcases r2 with ⟨rfl, r2⟩ | ⟨r2, r3⟩
      · rw [r2]
        exact e3
      · obtain ⟨k1, k2⟩ := canTh_or r2
        have hx : x.1 ≠ .jump := fun z => by rw [z] at k1; cases k1
        exact ⟨fun z => (k2 (r3 ▸ z)).elim, fun z => (hx (e3.mpr z)).elim⟩
abbrev anyM : Nat → Prop := fun _ => True
def Row.isDrop : Row → Bool
  | .bare .drop _ => true
  | _ => false
def Row.isPCQ : Row → Bool
  | .push _ _ => true
  | .copy _ _ => true
  | .nm .quick _ _ => true
  | _ => false
def Row.isNotR : Row → Bool
  | .bare .not _ => true
  | _ => false
def Row.isOrr : Row → Bool
  | .jmp .ortrue _ _ => true
  | .jmp .orfalse _ _ => true
  | _ => false
section
variable {r : Row}
end
abbrev GREAT : Int := 1000000000
def pushR (x : Val ⊕ Str) (l : Nat) : Option Row := match x with
  | .inl v => if valOk GREAT v = true then some (.push v l) else none
  | .inr _ => none
def Row.val : Row → Val
  | .push v _ => v
  | _ => .non
def Row.jop : Row → JOp
  | .jmp o _ _ => o
  | _ => .jump
def Row.bop : Row → BOp
  | .bare o _ => o
  | _ => .drop
def Row.cnt : Row → Nat
  | .copy n _ => n
  | .swap n _ => n
  | _ => 0
def JOp.flip : JOp → JOp
  | .iftrue => .iffalse
  | .iffalse => .iftrue
  | o => o
def two (x y : Row) : Option (List Row) :=
  if (y.isDrop && x.isPCQ) = true then some []
  else if (x.isNotR && y.isIf) = true then some [.jmp y.jop.flip y.mark y.line]
  else if x.isPush = false then none
  else if y.isNeg = true then (pushR (singleV y.bop x.val) y.line).map fun r => [r]
  else if (y.isCopy && decide (y.cnt = 1)) = true then some [x, x]
  else if y.isIf = true then some (if y.jop.takes x.val = true then [.jmp .jump y.mark y.line] else [])
  else if y.isOrr = true then some (if y.jop.takes x.val = true then [x, .jmp .jump y.mark y.line] else [])
  else none
inductive Fold : List Row → List Row → Prop
  | drop {x : Row} {l : Nat} : x.isPCQ = true → Fold [x, .bare .drop l] []
  | notif {o : JOp} {m l l1 : Nat} : (o = .iftrue ∨ o = .iffalse) → Fold [.bare .not l1, .jmp o m l] [.jmp o.flip m l]
  | neg {o : BOp} {v v' : Val} {l l1 : Nat} : (o = .neg ∨ o = .not) → singleV o v = .inl v' → valOk GREAT v' = true → Fold [.push v l1, .bare o l] [.push v' l]
  | copy {v : Val} {l l1 : Nat} : Fold [.push v l1, .copy 1 l] [.push v l1, .push v l1]
  | jyes {o : JOp} {v : Val} {m l l1 : Nat} : (o = .iftrue ∨ o = .iffalse) → o.takes v = true → Fold [.push v l1, .jmp o m l] [.jmp .jump m l]
  | jno {o : JOp} {v : Val} {m l l1 : Nat} : o ≠ .jump → o.takes v = false → Fold [.push v l1, .jmp o m l] []
  | oyes {o : JOp} {v : Val} {m l l1 : Nat} : (o = .ortrue ∨ o = .orfalse) → o.takes v = true → Fold [.push v l1, .jmp o m l] [.push v l1, .jmp .jump m l]
  | swap {a b : Val} {l l1 l2 : Nat} : Fold [.push a l1, .push b l2, .swap 2 l] [.push b l2, .push a l1]
  | op {o : POp} {a b v : Val} {l l1 l2 : Nat} : pairedV o a b = .inl v → valOk GREAT v = true → Fold [.push a l1, .push b l2, .pr o l] [.push v l]
structure PG (c : Code) : Prop where
  len : c.length ≤ 100000
  vals : RowsGood c
theorem dRng_map {n : Nat} : dRng 0 n = (List.range n).map dN := by
  unfold dRng
  refine List.map_congr_left fun i _ => ?_
  rw [Int.zero_add]
def SA (a n n' : Nat) (i i' : Nat) : Prop := (i ≤ a ∧ i' = i) ∨ (a + n ≤ i ∧ i' + n = i + n')
section
variable {A G G' B : List Row}
structure SegR (G G' : List Row) : Prop where
  pos : 1 ≤ G.length
  le : G'.length ≤ G.length
  lab : ∀ r, r ∈ G → r.isLabel = false
  lab' : ∀ r, r ∈ G' → r.isLabel = false
  rows : ∀ r, r ∈ G' → (∀ x, x ∈ G → x.ok = true ∧ x.fits) → r.ok = true ∧ r.fits
  vals : ∀ v l, Row.push v l ∈ G' → (∀ v l, Row.push v l ∈ G → v.good) → v.good
  hop : ∀ r, r ∈ G' → r.isHop = true → ∃ x, x ∈ G ∧ x.isHop = true ∧ x.mark = r.mark
end
theorem Reach.tri {c : Code} {i : Nat} {s : St} (h : Reach c i s) : ∀ x, x ∈ s.g → ∃ k l sk, c[k]? = some (.tri x.1 l) ∧ Reach c k sk := by
  obtain ⟨wk, ht, hz⟩ := h
  clear hz i
  induction ht with
  | base => intro x hx; cases hx
  | @step wk s s' i p r l h1 h2 h3 h4 h5 h6 ih =>
    intro x hx
    unfold allNext at h5
    obtain ⟨l0, a1, a2⟩ := Option.bind_eq_some_iff.mp h5
    have old : x ∈ s.g → ∃ k l sk, c[k]? = some (.tri x.1 l) ∧ Reach c k sk := ih x
    have inl0 : (p, s') ∈ l0 → ∃ k l sk, c[k]? = some (.tri x.1 l) ∧ Reach c k sk := fun hq => by
      unfold plainNext at a1
      split at a1
      · obtain ⟨q, _, rfl⟩ := Option.map_eq_some_iff.mp a1
        rw [List.mem_singleton] at hq
        cases hq
        exact old hx
      split at a1
      · obtain ⟨q, _, rfl⟩ := Option.map_eq_some_iff.mp a1
        simp only [List.mem_cons, List.not_mem_nil, or_false] at hq
        rcases hq with hq | hq <;> (cases hq; exact old hx)
      split at a1
      · rename_i ht
        cases a1
        rw [List.mem_singleton] at hq
        cases hq
        rcases List.mem_cons.mp hx with rfl | hx
        · cases r with
          | tri m l' => exact ⟨i, l', s, h3, wk, h1, h2⟩
          | _ => cases ht
        · exact old hx
      split at a1
      · cases a1
        rw [List.mem_singleton] at hq
        cases hq
        exact old (List.mem_of_mem_tail hx)
      split at a1
      · cases a1
        cases hq
      · cases a1
        rw [List.mem_singleton] at hq
        cases hq
        exact old hx
    cases hg : s.g with
    | nil =>
      rw [hg] at a2
      cases a2
      exact inl0 h6
    | cons y g =>
      rw [hg] at a2
      have a2 : (if r.isFaulty = true then ((whereL c).lookup y.1).map fun p => l0 ++ [(p, (⟨y.2 + 1, g⟩ : St))] else some l0) = some l := a2
      split at a2
      · obtain ⟨q, _, rfl⟩ := Option.map_eq_some_iff.mp a2
        rcases List.mem_append.mp h6 with h6 | h6
        · exact inl0 h6
        · rw [List.mem_singleton] at h6
          cases h6
          exact old (by rw [hg]; exact List.mem_cons_of_mem _ hx)
      · cases a2
        exact inl0 h6
def Row.isSwp : Row → Bool
  | .swap _ _ => true
  | _ => false
def Row.plS : Row → Nat
  | .swap n _ => n - 1
  | _ => 0
def grpOf (G : List Row) : List Nat := G.map Row.plS
def fewRows (G : List Row) (l : Nat) : List Row := (fewOf (grpOf G)).map fun k => Row.swap (k + 1) l
def outG : List Row → List Row
  | [] => []
  | r :: G => if (fewOf (grpOf (r :: G))).length < (r :: G).length then fewRows (r :: G) r.line else r :: G
def swR : List Row → List Row → List Row
  | [], G => outG G
  | r :: rs, G => if r.isSwp = true then swR rs (G ++ [r]) else outG G ++ r :: swR rs []
def sw (c : Code) : Code := swR c []
section
variable {A G G' B : List Row}
structure SwL (A G G' B : List Row) (m m' : Mc) : Prop where
  like : Like (SA A.length G.length G'.length) anyM m m'
  atR : m.last = .on → AtR (A ++ G ++ B) m
end
def m_swaps_for : MS := (mSeq (mSet 1 (mLrng1 (mOp [.fz] (maCons (mVar 0) maNil) dLenU)))
  (mSeq (mSet 2 (mLst maNil))
  (mSeq (mWhile (mTr (m2 (.br 1) (.fz) (mBr 1) (mVar 0) dNeU)) (mSeq (mSet 3 (mM_index (.fz) (mVar 0) [.fz] (maCons (m2 (.br 1) (.fz) (mBr 1) (mC (.int 0)) dIxU) maNil)))
  (mSeq (mIte (mTr (m2 (.fz) (.fz) (mVar 3) (mC (.int 0)) dEqU)) (mSet 3 (m2 (.ow) (.fz) (mLc (mRng1 (maCons (mOp [.fz] (maCons (mVar 0) maNil) dLenU) maNil)) (mgN 4) (mTr (m2 (.fz) (.fz) (m2 (.br 1) (.fz) (mBr 1) (mVar 4) dIxU) (m2 (.fz) (.fz) (mVar 0) (mVar 4) dIxU) dNeU)) (mVar 4) [4]) (mC (.int 0)) dIxU)) mSkip)
  (mSeq (mAsg (mgT 2 (mgCons (mgIx 1 (mC (.int 0))) (mgCons (mgIx 1 (mVar 3)) mgNil))) (mTup (maCons (m2 (.br 1) (.fz) (mBr 1) (mVar 3) dIxU) (maCons (m2 (.br 1) (.fz) (mBr 1) (mC (.int 0)) dIxU) maNil))))
  (mDrop (mMut 2 "list" (maCons (m2 (.fz) (.fz) (mVar 3) (mC (.int 1)) dAddU) maNil) dAppend))))))
  (mRet (mMv 2)))))
def f_swaps_for : En → Option (D × En) := mFun [.fz] 4 .ow m_swaps_for
abbrev nL (xs : List Nat) : D := .list (xs.map dN)
theorem eq0_nL {xs : List Nat} : Eq0 1 (nL xs) := Eq0.list (n := 0) fun d hd => by
  obtain ⟨x, _, rfl⟩ := List.mem_map.mp hd
  exact Eq0.int
theorem ne_nL {a b : List Nat} : dNeU [nL a, nL b] = some (.bool (!decide (a = b))) := by
  rw [dNe_of eq0_nL eq0_nL, PyData.eqv, eqvAll_map fun _ _ => eqv_N]
theorem ix_nL {xs : List Nat} {i v : Nat} (h : xs[i]? = some v) : dIxU [nL xs, dN i] = some (dN v) := ix_list (u := dN) h
theorem first_nL {v : Nat} : ∀ {o : List Nat} {k : Nat}, v ∈ o → firstAt (dN v) k (o.map dN) = some (k + o.idxOf v)
  | [], _, h => by cases h
  | a :: o, k, h => by
    rw [List.map_cons]
    unfold firstAt
    rw [eqv_N, List.idxOf_cons]
    by_cases e : a = v
    · subst e
      rw [decide_eq_true rfl, if_pos rfl]
      simp
    · rw [decide_eq_false e, if_neg Bool.false_ne_true]
      have hv : v ∈ o := by
        cases h with
        | head => exact (e rfl).elim
        | tail _ h => exact h
      rw [first_nL hv, beq_false_of_ne e]
      show some (k + 1 + o.idxOf v) = some (k + (o.idxOf v + 1))
      congr 1
      omega
theorem idx_nL {o : List Nat} {v : Nat} (h : v ∈ o) : dIndex [nL o, dN v] = some (dN (o.idxOf v)) := by
  show (if (eqOk (nL o) && eqOk (dN v)) = true then (firstAt (dN v) 0 (o.map dN)).map (fun j : Nat => PyData.int (j : Int)) else none) = _
  rw [(eq0_nL (xs := o)).ok (by decide), (Eq0.int (n := 0) (i := (v : Int))).ok (by decide), if_pos (show (true && true) = true from rfl), first_nL h, Nat.zero_add]
  rfl
theorem v_indexF {m : M} {ma : MA} {ρ : En} : mM_index .fz m [.fz] ma ρ = mOp [.fz, .fz] (maCons m ma) dIndex ρ := rfl
def kLr (p : D × En) : Option (D × En) := match p.1 with
  | .int n => if n ≤ 16777216 ∧ -16777216 ≤ n then some (.list (rgD n), p.2) else none
  | _ => none
theorem v_lrngK {m : M} {ρ : En} : mLrng1 m ρ = (m ρ).bind kLr := rfl
theorem kLr_n {n : Nat} {ρ : En} (h : n ≤ 1000) : kLr (dN n, ρ) = some (nL (List.range n), ρ) := by
  show (if (n : Int) ≤ 16777216 ∧ -16777216 ≤ (n : Int) then some (PyData.list (rgD n), ρ) else none) = _
  rw [if_pos (by omega)]
  unfold rgD
  rw [Int.toNat_natCast]
theorem ixN_n {n k : Nat} (h : k < n) : ixN n (k : Int) = some k := by
  rw [ixN_int (by omega) (by omega), Int.toNat_natCast]
theorem sw_at {i : Nat} {m0 : M} {mk : M} {ρ : En} {xs : List Nat} {k : Nat} (hk : k < xs.length) (hi : at? ρ i = some (nL xs)) (hm : mk ρ = some (dN k, ρ)) (hs : ∀ ρ' : En, (∃ x, ρ' = ρ.set i (some x)) → mk ρ' = some (dN k, ρ')) :
    mAsg (mgT 2 (mgCons (mgIx i (mC (.int 0))) (mgCons (mgIx i mk) mgNil))) (mTup (maCons (m2 (.br i) (.fz) (mBr i) mk dIxU) (maCons (m2 (.br i) (.fz) (mBr i) (mC (.int 0)) dIxU) maNil))) ρ = some (.nx, ρ.set i (some (nL (swp k xs)))) := by
  have h0 : 0 < xs.length := by omega
  have e0 := List.getElem?_eq_getElem h0
  have ek := List.getElem?_eq_getElem hk
  have f0 : dIxU [nL xs, .int 0] = some (dN xs[0]) := ix_nL e0
  have fk : dIxU [nL xs, dN k] = some (dN xs[k]) := ix_nL ek
  have hρ : ρ[i]? = some (some (nL xs)) := by
    unfold at? at hi
    cases e : ρ[i]? with
    | none => rw [e] at hi; cases hi
    | some o =>
      rw [e] at hi
      have hi : o = some (nL xs) := hi
      rw [hi]
  have hlt := (List.getElem?_eq_some_iff.mp hρ).1
  have br : mBr i ρ = some (.none, ρ) := by rw [v_br, hi]; rfl
  have fi : fill [.br i, .fz] [.none, dN k] ρ = some [nL xs, dN k] := by
    rw [fill_br, hi]
    rfl
  have fi0 : fill [.br i, .fz] [.none, .int 0] ρ = some [nL xs, .int 0] := by
    rw [fill_br, hi]
    rfl
  have g1 : m2 (.br i) (.fz) (mBr i) mk dIxU ρ = some (dN xs[k], ρ) := by
    rw [v_m2, br]
    show (mk ρ).bind _ = _
    rw [hm]
    show (fill [.br i, .fz] [.none, dN k] ρ).bind _ = _
    rw [fi]
    show (dIxU [nL xs, dN k]).bind _ = _
    rw [fk]
    rfl
  have g2 : m2 (.br i) (.fz) (mBr i) (mC (.int 0)) dIxU ρ = some (dN xs[0], ρ) := by
    rw [v_m2, br]
    show (fill [.br i, .fz] [.none, .int 0] ρ).bind _ = _
    rw [fi0]
    show (dIxU [nL xs, .int 0]).bind _ = _
    rw [f0]
    rfl
  have tp : mTup (maCons (m2 (.br i) (.fz) (mBr i) mk dIxU) (maCons (m2 (.br i) (.fz) (mBr i) (mC (.int 0)) dIxU) maNil)) ρ = some (.tuple [dN xs[k], dN xs[0]], ρ) := by
    rw [v_tup, v_aCons, g1]
    show ((maCons _ maNil ρ).bind _).bind _ = _
    rw [v_aCons, g2]
    rfl
  have s1 : mgIx i (mC (.int 0)) (dN xs[k]) ρ = some (ρ.set i (some (nL (xs.set 0 xs[k])))) := by
    rw [v_gIx, hi]
    show (at? ρ i).bind _ = _
    rw [hi]
    show (ixN (xs.map dN).length 0).bind _ = _
    rw [show ixN (xs.map dN).length 0 = some 0 from ixN_n (by rw [List.length_map]; exact h0)]
    show some (ρ.set i (some (PyData.list ((xs.map dN).set 0 (dN xs[k]))))) = _
    rw [← List.map_set]
  have hi2 : at? (ρ.set i (some (nL (xs.set 0 xs[k])))) i = some (nL (xs.set 0 xs[k])) := by
    unfold at?
    rw [List.getElem?_set_self hlt]
    rfl
  have s2 : mgIx i mk (dN xs[0]) (ρ.set i (some (nL (xs.set 0 xs[k])))) = some (ρ.set i (some (nL (swp k xs)))) := by
    rw [v_gIx, hi2]
    show (mk _).bind _ = _
    rw [hs _ ⟨_, rfl⟩]
    show (at? _ i).bind _ = _
    rw [hi2]
    show (ixN ((xs.set 0 xs[k]).map dN).length (k : Int)).bind _ = _
    rw [ixN_n (by rw [List.length_map, List.length_set]; exact hk)]
    show some ((ρ.set i _).set i (some (PyData.list (((xs.set 0 xs[k]).map dN).set k (dN xs[0]))))) = _
    rw [← List.map_set, List.set_set, swp_of e0 ek]
  rw [v_asg, tp]
  show (mgT 2 _ (.tuple [dN xs[k], dN xs[0]]) ρ).bind _ = _
  show ((mgIx i (mC (.int 0)) (dN xs[k]) ρ).bind fun ρ' => (mgIx i mk (dN xs[0]) ρ').bind fun ρ2 => some ρ2).bind _ = _
  rw [s1]
  show ((mgIx i mk (dN xs[0]) (ρ.set i (some (nL (xs.set 0 xs[k]))))).bind _).bind _ = _
  rw [s2]
  rfl
def swC : MT := mTr (m2 (.br 1) (.fz) (mBr 1) (mVar 0) dNeU)
def swA : MS := mSet 3 (mM_index (.fz) (mVar 0) [.fz] (maCons (m2 (.br 1) (.fz) (mBr 1) (mC (.int 0)) dIxU) maNil))
def swB : MS := mIte (mTr (m2 (.fz) (.fz) (mVar 3) (mC (.int 0)) dEqU)) (mSet 3 (m2 (.ow) (.fz) (mLc (mRng1 (maCons (mOp [.fz] (maCons (mVar 0) maNil) dLenU) maNil)) (mgN 4) (mTr (m2 (.fz) (.fz) (m2 (.br 1) (.fz) (mBr 1) (mVar 4) dIxU) (m2 (.fz) (.fz) (mVar 0) (mVar 4) dIxU) dNeU)) (mVar 4) [4]) (mC (.int 0)) dIxU)) mSkip
def swD : MS := mAsg (mgT 2 (mgCons (mgIx 1 (mC (.int 0))) (mgCons (mgIx 1 (mVar 3)) mgNil))) (mTup (maCons (m2 (.br 1) (.fz) (mBr 1) (mVar 3) dIxU) (maCons (m2 (.br 1) (.fz) (mBr 1) (mC (.int 0)) dIxU) maNil)))
def swE : MS := mDrop (mMut 2 "list" (maCons (m2 (.fz) (.fz) (mVar 3) (mC (.int 1)) dAddU) maNil) dAppend)
theorem swaps_for_eq : m_swaps_for = mSeq (mSet 1 (mLrng1 (mOp [.fz] (maCons (mVar 0) maNil) dLenU))) (mSeq (mSet 2 (mLst maNil)) (mSeq (mWhile swC (mSeq swA (mSeq swB (mSeq swD swE)))) (mRet (mMv 2)))) := rfl
theorem len_nL {xs : List Nat} : dLenU [nL xs] = some (dN xs.length) := by
  show dLenU [.list (xs.map dN)] = _
  have : dLenU [.list (xs.map dN)] = some (.int ((xs.map dN).length : Nat)) := rfl
  rw [this, List.length_map]
theorem wh_step {c : MT} {b : MS} {n : Nat} {ρ ρ1 ρ2 : En} {x : Fl × En} (h1 : c ρ = some (true, ρ1)) (h2 : b ρ1 = some (.nx, ρ2)) (h3 : whN c b n ρ2 = some x) : whN c b (n + 1) ρ = some x := by
  show (c ρ).bind _ = _
  rw [h1]
  show (b ρ1).bind _ = _
  rw [h2]
  exact h3
theorem wh_end {c : MT} {b : MS} {n : Nat} {ρ ρ1 : En} (h1 : c ρ = some (false, ρ1)) : whN c b (n + 1) ρ = some (.nx, ρ1) := by
  show (c ρ).bind _ = _
  rw [h1]
  rfl
theorem swC_ok {o now : List Nat} {f2 o3 o4 : Option D} : swC [some (nL o), some (nL now), f2, o3, o4] = some (!decide (now = o), [some (nL o), some (nL now), f2, o3, o4]) := by
  unfold swC
  exists ne_nL (a := now) (b := o)
theorem swB_lc {o now : List Nat} {f2 o3 o4 : Option D} (hl : now.length = o.length) (hn : o.length ≤ 1000) :
    ((mLcL ((List.range o.length).map dN) (mgN 4) (mTr (m2 (.fz) (.fz) (m2 (.br 1) (.fz) (mBr 1) (mVar 4) dIxU) (m2 (.fz) (.fz) (mVar 0) (mVar 4) dIxU) dNeU)) (mVar 4) [4] [] [some (nL o), some (nL now), f2, o3, o4]).bind fun q => some (PyData.list q.1, restE [some (nL o), some (nL now), f2, o3, o4] [4] q.2)) = some (nL ((List.range o.length).filter fun i => decide (now[i]? ≠ o[i]?)), [some (nL o), some (nL now), f2, o3, o4]) := by
  have lc := lcF_eq (τ := Nat) (u := dN) (ρ := [some (nL o), some (nL now), f2, o3, o4]) (g := mgN 4) (t := mTr (m2 (.fz) (.fz) (m2 (.br 1) (.fz) (mBr 1) (mVar 4) dIxU) (m2 (.fz) (.fz) (mVar 0) (mVar 4) dIxU) dNeU)) (e := mVar 4) (vs := [4])
    (F := fun i => if decide (now[i]? ≠ o[i]?) = true then some (dN i) else none) (xs := List.range o.length) (by rw [List.length_range]; omega) fun i hi => by
      have hi := List.mem_range.mp hi
      have e1 := List.getElem?_eq_getElem hi
      have e2 := List.getElem?_eq_getElem (show i < now.length by omega)
      have f1 := ix_nL e1
      have f2' := ix_nL e2
      have ne : dNeU [dN now[i], dN o[i]] = some (.bool (decide (now[i]? ≠ o[i]?))) := by
        rw [dNe_of (n := 0) (m := 0) Eq0.int Eq0.int, eqv_N, e1, e2]
        congr 2
        by_cases h : now[i] = o[i]
        · rw [h]; simp
        · simp [h]
      refine ⟨[some (nL o), some (nL now), f2, o3, some (dN i)], rfl, decide (now[i]? ≠ o[i]?), [some (nL o), some (nL now), f2, o3, some (dN i)], ?_, ?_⟩
      · exists f1, f2', ne
      · cases hd : decide (now[i]? ≠ o[i]?) with
        | true =>
          rw [if_pos rfl]
          refine ⟨dN i, [some (nL o), some (nL now), f2, o3, some (dN i)], rfl, by rw [if_pos rfl], rfl⟩
        | false =>
          rw [if_neg Bool.false_ne_true]
          exact ⟨by rw [if_neg Bool.false_ne_true], rfl⟩
  refine lc.trans ?_
  congr 2
  show PyData.list _ = PyData.list _
  congr 1
  generalize List.range o.length = xs
  induction xs with
  | nil => rfl
  | cons x xs ih =>
    rw [List.filterMap_cons, List.filter_cons]
    cases decide (now[x]? ≠ o[x]?) with
    | true =>
      show dN x :: _ = (x :: _).map dN
      rw [List.map_cons, ← ih]
      all_goals rfl
    | false => exact ih
theorem swaps_body {o now : List Nat} {c0 : List Nat} {cs : List (Nat × List Nat)} (nd : o.Nodup) (R : Rep o now c0 cs) (ne : now ≠ o) (hn : o.length ≤ 1000) {f : List Nat} (hf : f.length ≤ 1000) {o3 o4 : Option D} :
    ∃ o3', (mSeq swA (mSeq swB (mSeq swD swE))) [some (nL o), some (nL now), some (nL f), o3, o4] = some (.nx, [some (nL o), some (nL (swp (plc o now) now)), some (nL (f ++ [plc o now + 1])), o3', o4]) := by
  obtain ⟨p1, p2, _⟩ := R.less nd ne
  have pos := R.pos
  have hl := R.len
  obtain ⟨v, hv⟩ : ∃ v, now[0]? = some v := ⟨_, List.getElem?_eq_getElem (by omega)⟩
  have hd : now.headD 0 = v := by
    cases now with
    | nil => cases hv
    | cons a t => cases hv; rfl
  have hm : v ∈ o := by
    have p := R.p0
    cases c0 with
    | nil =>
      have p : now[0]? = o[0]? := p
      exact List.mem_of_getElem? (p.symm.trans hv)
    | cons a c => exact List.mem_of_getElem? (p.1.symm.trans hv)
  have a1 : dIxU [nL now, .int 0] = some (dN v) := ix_nL hv
  have a2 := idx_nL hm
  have hA : swA [some (nL o), some (nL now), some (nL f), o3, o4] = some (.nx, [some (nL o), some (nL now), some (nL f), some (dN (o.idxOf v)), o4]) := by
    unfold swA
    exists v_indexF, a1, a2
  have hB : swB [some (nL o), some (nL now), some (nL f), some (dN (o.idxOf v)), o4] = some (.nx, [some (nL o), some (nL now), some (nL f), some (dN (plc o now)), o4]) := by
    unfold swB
    have eq : dEqU [dN (o.idxOf v), .int 0] = some (.bool (decide (o.idxOf v = 0))) := by
      rw [dEq_of (n := 0) (m := 0) Eq0.int Eq0.int]
      exact congrArg (fun b => some (PyData.bool b)) (eqv_N (b := 0))
    by_cases h : o.idxOf v = 0
    · rw [decide_eq_true h] at eq
      have e : plc o now = ((List.range o.length).filter fun i => decide (now[i]? ≠ o[i]?)).headD 0 := by
        unfold plc
        rw [hd, if_pos h]
      have lc := swB_lc (f2 := some (nL f)) (o3 := some (dN (o.idxOf v))) (o4 := o4) hl hn
      have i0 : dIxU [nL ((List.range o.length).filter fun i => decide (now[i]? ≠ o[i]?)), .int 0] = some (dN (plc o now)) := by
        refine ix_nL ?_
        cases hf : (List.range o.length).filter fun i => decide (now[i]? ≠ o[i]?) with
        | nil =>
          rw [hf] at e
          have e : plc o now = 0 := e
          omega
        | cons q t =>
          rw [hf] at e
          have e : plc o now = q := e
          rw [e]
          rfl
      exists eq, len_nL (xs := o), rng_ok (show o.length < 1000000 by omega), dRng_map (n := o.length), lc, i0
    · rw [decide_eq_false h] at eq
      have e : plc o now = o.idxOf v := by
        unfold plc
        rw [hd, if_neg h]
      rw [e]
      exists eq
  have hD : swD [some (nL o), some (nL now), some (nL f), some (dN (plc o now)), o4] = some (.nx, [some (nL o), some (nL (swp (plc o now) now)), some (nL f), some (dN (plc o now)), o4]) := by
    unfold swD
    exact sw_at (m0 := mVar 3) (ρ := [some (nL o), some (nL now), some (nL f), some (dN (plc o now)), o4]) (by omega) rfl rfl fun ρ' ⟨x, hx⟩ => by
      subst hx
      rfl
  have ap : dAppend (nL f) [dN (plc o now + 1)] = some (.none, nL (f ++ [plc o now + 1])) := by
    refine (dAppend_eq (by rw [List.length_map]; omega)).trans ?_
    rw [← List.map_singleton (f := dN), ← List.map_append]
  have ad : dAddU [dN (plc o now), .int 1] = some (dN (plc o now + 1)) := rfl
  have hE : swE [some (nL o), some (nL (swp (plc o now) now)), some (nL f), some (dN (plc o now)), o4] = some (.nx, [some (nL o), some (nL (swp (plc o now) now)), some (nL (f ++ [plc o now + 1])), some (dN (plc o now)), o4]) := by
    unfold swE
    have ei : ((plc o now : Nat) : Int) + 1 = ((plc o now + 1 : Nat) : Int) := rfl
    exists ei, ap
  exact ⟨_, by rw [E_seq hA, E_seq hB, E_seq hD]; exact hE⟩
theorem swaps_while {o : List Nat} (nd : o.Nodup) (hn : o.length ≤ 100) : ∀ {ks now : List Nat}, Gr o now ks → ∀ {c0 : List Nat} {cs : List (Nat × List Nat)} {f : List Nat} {o3 o4 : Option D}, Rep o now c0 cs → f.length + ks.length ≤ 1000 → ∃ o3', whN swC (mSeq swA (mSeq swB (mSeq swD swE))) (ks.length + 1) [some (nL o), some (nL now), some (nL f), o3, o4] = some (.nx, [some (nL o), some (nL o), some (nL (f ++ ks.map (· + 1))), o3', o4])
  | _, _, .done, _, _, f, o3, o4, _, _ => ⟨o3, by
    refine wh_end ?_
    rw [swC_ok, decide_eq_true rfl]
    show some (!true, [some (nL o), some (nL o), some (nL f), o3, o4]) = some (false, [some (nL o), some (nL o), some (nL (f ++ [])), o3, o4])
    rw [List.append_nil]
    rfl⟩
  | _, _, .step (now := now) (ks := ks) ne g, c0, cs, f, o3, o4, R, hf => by
    have hf : f.length + (ks.length + 1) ≤ 1000 := hf
    obtain ⟨o3', b⟩ := swaps_body nd R ne (by omega) (f := f) (by omega) (o3 := o3) (o4 := o4)
    obtain ⟨_, _, d, ds, R', _⟩ := R.less nd ne
    obtain ⟨o3'', w⟩ := swaps_while nd hn g (f := f ++ [plc o now + 1]) (o3 := o3') (o4 := o4) R' (by rw [List.length_append, List.length_singleton]; omega)
    refine ⟨o3'', wh_step (ρ1 := [some (nL o), some (nL now), some (nL f), o3, o4]) ?_ b ?_⟩
    · rw [swC_ok, decide_eq_false ne]
      rfl
    · refine w.trans ?_
      rw [List.append_assoc]
      rfl
theorem swaps_for_ok {o : List Nat} (H : Ord o) (hn : o.length ≤ 100) : f_swaps_for [some (nL o)] = some (nL ((swapsFor o).map (· + 1)), [none]) := by
  have nd := H.nd
  have a := swapsFor_ok H
  obtain ⟨ks, h1, h2, h3⟩ := H
  obtain ⟨c0, cs, R, _⟩ := rep_of (ks := ks) (now := List.range o.length) (fun k hk => by rw [List.length_range]; exact h1 k hk) (by rw [List.length_range]; exact h2)
  rw [h3] at R
  obtain ⟨o3', w⟩ := swaps_while nd hn a.1 (f := []) (o3 := none) (o4 := none) R (by simp; omega)
  have e := mWhile_of (show (swapsFor o).length + 1 ≤ whFuel by unfold whFuel; omega) w
  have e : mWhile swC (mSeq swA (mSeq swB (mSeq swD swE))) [some (nL o), some (nL (List.range o.length)), some (.list []), none, none] = some (.nx, [some (nL o), some (nL o), some (nL ((swapsFor o).map (· + 1))), o3', none]) := e
  unfold f_swaps_for
  rw [swaps_for_eq]
  exists len_nL (xs := o), v_lrngK, kLr_n (n := o.length) (by omega), e
structure OrI (G : List Row) (rest : List D) (ρ : En) : Prop where
  ex : ∃ (a b : List Row) (o2 : Option D), G = a ++ b ∧ rest = b.map Row.d ∧ ρ = [some (rwD G), some (nL (swps (grpOf a) (List.range (topOf (grpOf G))))), o2]
structure Ct (K : PySem.W.Frag) (w : World) (mg : Str → Option Value) : Prop where
  x_BadOrder : ExT K mg "BadOrder"
abbrev N_is_number : List Str := ["thing", "least", "most"]
theorem sc_is_number : FnScope N_is_number ["thing", "least", "most"] (defScope s_is_number) := ⟨rfl, rfl, rfl, by decide +kernel, rfl, by decide +kernel, by decide +kernel⟩
theorem ok_is_number {P : Program} {w : World} {K : PySem.W.Frag} {mg : Str → Option Value} {base : Heap} {f : Addr} {fd : FuncData} (F : FunD K "is_number" "is_number" (defArgs s_is_number) (defBody s_is_number) (defScope s_is_number) [] [] f fd) (B : Bt mg) (C : Ct K w mg) :
    FnG P w K mg base CX0 1 f fd ["thing", "least", "most"] (spF K [.fz, .fz, .fz] f_is_number .fz) :=
  fn_data (Oi := [.fz, .fz, .fz]) (Ol := []) (r := .fz) F sc_is_number rfl rfl rfl (fun _ z => by cases z) fun cd A outer s H E hgd hr =>
    have hu := hu65 hr
    (s_one (s_ret (e_and (e_isi B.isinstance B.int (by decide +kernel) (e_var 0)) (e_and (e_not (e_isi B.isinstance B.bool (by decide +kernel) (e_var 0))) (e_one (e_chain op_le op_le (e_var 1) (e_var 0) (e_var 2)))))))
abbrev N_look_order : List Str := ["order", "one"]
theorem sc_look_order : FnScope N_look_order ["order"] (defScope s_look_order) := ⟨rfl, rfl, rfl, by decide +kernel, rfl, by decide +kernel, by decide +kernel⟩
abbrev O_look_order : List Kd := [.fz, .fz]
def m_look_order : MS := (mSeq (mIte (mOr (mNot (mTr (m1 (.fz) (mVar 0) (dIs "list")))) (mNot (mTr (mChain (fun i j => decide (i ≤ j)) (fun i j => decide (i ≤ j)) (mC (.int 1)) (mOp [.fz] (maCons (mVar 0) maNil) dLenU) (mC (.int 9)))))) mNever mSkip)
  (mIte (mOr (mNot (mTr (mOp [.ow] (maCons (mLc (mItU (mVar 0)) (mgN 1) mYes (mCall f_is_number [.fz, .fz, .fz] [] (maCons (mVar 1) (maCons (mC (.int 0)) (maCons (m2 (.fz) (.fz) (mOp [.fz] (maCons (mVar 0) maNil) dLenU) (mC (.int 1)) dSub) maNil)))) [1]) maNil) dAll))) (mTr (m2 (.fz) (.fz) (mLenSetA (mVar 0)) (mOp [.fz] (maCons (mVar 0) maNil) dLenU) dNeU))) mNever mSkip))
def f_look_order : En → Option (D × En) := mFun [.fz] 1 .fz m_look_order
theorem ok_look_order {P : Program} {w : World} {K : PySem.W.Frag} {mg : Str → Option Value} {base : Heap} {f : Addr} {fd : FuncData} (F : FunD K "look_order" "look_order" (defArgs s_look_order) (defBody s_look_order) (defScope s_look_order) [] [] f fd) (B : Bt mg) (C : Ct K w mg) (G_is_number : FnX P w K mg base "is_number" 1 ["thing", "least", "most"] (spF K [.fz, .fz, .fz] f_is_number .fz)) :
    FnG P w K mg base CX0 2 f fd ["order"] (spF K [.fz] f_look_order .fz) :=
  fn_data (Oi := [.fz]) (Ol := [.fz]) (r := .fz) F sc_look_order rfl rfl rfl (fun _ z => by cases z) fun cd A outer s H E hgd hr =>
    have hu := hu65 hr
    (s_cons (s_if (PW.pt (w_or (t_not (t_val (e_isi B.isinstance B.list (by decide +kernel) (e_var 0)))) (w_or1 (t_not (t_chain op_le op_le e_int (e_lenU B (a_cons (e_var 0) a_nil)) e_int))))) (s_one s_never) s_nil)
    (s_one (s_if (PW.pt (w_or (t_not (t_val (e_all B rfl (a_cons (e_lc (own := [("one", 1)]) (L := O_look_order) rfl sc_look_order.nd (i_any (e_var 0)) (blkOk_by (N := N_look_order) (sc := defScope s_look_order) (by decide +kernel)) (fun _ _ _ _ _ => (g_name 1 sc_look_order.nd)) (fun _ _ _ _ _ => ts_nil) (fun _ _ _ _ _ => (e_callX G_is_number hgd hr (a_cons (e_var 1) (a_cons e_int (a_cons (e_op op_sub s_sub (e_lenU B (a_cons (e_var 0) a_nil)) e_int) a_nil)))))) a_nil)))) (w_or1 (t_ne hu (e_lenSetA B rfl (e_var 0)) (e_lenU B (a_cons (e_var 0) a_nil)))))) (s_one s_never) s_nil)))
abbrev Ox_look_order : List Kd := [.fz, .fz]
def mx_look_order : MSX := (mSeqX (mIteX (mOr (mNot (mTr (m1 (.fz) (mVar 0) (dIs "list")))) (mNot (mTr (mChain (fun i j => decide (i ≤ j)) (fun i j => decide (i ≤ j)) (mC (.int 1)) (mOp [.fz] (maCons (mVar 0) maNil) dLenU) (mC (.int 9)))))) (mRaiseX "BadOrder") (xS mSkip))
  (mIteX (mOr (mNot (mTr (mOp [.ow] (maCons (mLc (mItU (mVar 0)) (mgN 1) mYes (mCall f_is_number [.fz, .fz, .fz] [] (maCons (mVar 1) (maCons (mC (.int 0)) (maCons (m2 (.fz) (.fz) (mOp [.fz] (maCons (mVar 0) maNil) dLenU) (mC (.int 1)) dSub) maNil)))) [1]) maNil) dAll))) (mTr (m2 (.fz) (.fz) (mLenSetA (mVar 0)) (mOp [.fz] (maCons (mVar 0) maNil) dLenU) dNeU))) (mRaiseX "BadOrder") (xS mSkip)))
def fx_look_order : MX := mFunX [.fz] 1 .fz mx_look_order
theorem okx_look_order {P : Program} {w : World} {K : PySem.W.Frag} {mg : Str → Option Value} {base : Heap} {f : Addr} {fd : FuncData} (F : FunD K "look_order" "look_order" (defArgs s_look_order) (defBody s_look_order) (defScope s_look_order) [] [] f fd) (B : Bt mg) (C : Ct K w mg) (G_is_number : FnX P w K mg base "is_number" 1 ["thing", "least", "most"] (spF K [.fz, .fz, .fz] f_is_number .fz)) :
    FnG P w K mg base (L2.CX P w) 2 f fd ["order"] (spX K [.fz] fx_look_order .fz) :=
  fn_dataX (Oi := [.fz]) (Ol := [.fz]) (r := .fz) F sc_look_order rfl rfl rfl (fun _ z => by cases z) fun cd A outer s H E hgd hr tk =>
    have hu := hu65 hr
    (x_cons (x_ite (PW.pt (w_or (t_not (t_val (e_isi B.isinstance B.list (by decide +kernel) (e_var 0)))) (w_or1 (t_not (t_chain op_le op_le e_int (e_lenU B (a_cons (e_var 0) a_nil)) e_int))))) (x_one (x_raiseC C.x_BadOrder rfl tk)) x_nil)
    (x_one (x_ite (PW.pt (w_or (t_not (t_val (e_all B rfl (a_cons (e_lc (own := [("one", 1)]) (L := Ox_look_order) rfl sc_look_order.nd (i_any (e_var 0)) (blkOk_by (N := N_look_order) (sc := defScope s_look_order) (by decide +kernel)) (fun _ _ _ _ _ => (g_name 1 sc_look_order.nd)) (fun _ _ _ _ _ => ts_nil) (fun _ _ _ _ _ => (e_callX G_is_number hgd hr (a_cons (e_var 1) (a_cons e_int (a_cons (e_op op_sub s_sub (e_lenU B (a_cons (e_var 0) a_nil)) e_int) a_nil)))))) a_nil)))) (w_or1 (t_ne hu (e_lenSetA B rfl (e_var 0)) (e_lenU B (a_cons (e_var 0) a_nil)))))) (x_one (x_raiseC C.x_BadOrder rfl tk)) x_nil)))
abbrev N_swaps_for : List Str := ["order", "now", "found", "place", "at"]
theorem sc_swaps_for : FnScope N_swaps_for ["order"] (defScope s_swaps_for) := ⟨rfl, rfl, rfl, by decide +kernel, rfl, by decide +kernel, by decide +kernel⟩
abbrev O_swaps_for : List Kd := [.fz, .ow, .ow, .fz, .fz]
theorem ok_swaps_for {P : Program} {w : World} {K : PySem.W.Frag} {mg : Str → Option Value} {base : Heap} {f : Addr} {fd : FuncData} (F : FunD K "swaps_for" "swaps_for" (defArgs s_swaps_for) (defBody s_swaps_for) (defScope s_swaps_for) [] [] f fd) (B : Bt mg) (C : Ct K w mg) :
    FnG P w K mg base CX0 1 f fd ["order"] (spF K [.fz] f_swaps_for .ow) :=
  fn_data (Oi := [.fz]) (Ol := [.ow, .ow, .fz, .fz]) (r := .ow) F sc_swaps_for rfl rfl rfl (fun _ z => by cases z) fun cd A outer s H E hgd hr =>
    have hu := hu65 hr
    (s_cons (s_setO 1 sc_swaps_for.nd (e_lrng1 B rfl (e_lenU B (a_cons (e_var 0) a_nil))))
    (s_cons (s_setO 2 sc_swaps_for.nd (e_lst a_nil))
    (s_cons (s_while PassesOwn.never (t_ne hu (e_br 1) (e_var 0)) (s_cons (s_setF 3 sc_swaps_for.nd (e_m_indexF hu (e_var 0) (a_cons (e_ixU hu (e_br 1) e_int) a_nil)))
    (s_cons (s_if (t_eq hu (e_var 3) e_int) (s_one (s_setF 3 sc_swaps_for.nd (e_ixU hu (e_lc (own := [("at", 4)]) (L := O_swaps_for) rfl sc_swaps_for.nd (i_rng1 B.range (a_cons (e_lenU B (a_cons (e_var 0) a_nil)) a_nil)) (blkOk_by (N := N_swaps_for) (sc := defScope s_swaps_for) (by decide +kernel)) (fun _ _ _ _ _ => (g_name 4 sc_swaps_for.nd)) (fun _ _ _ _ _ => (ts_one (t_ne hu (e_ixU hu (e_br 1) (e_var 4)) (e_ixU hu (e_var 0) (e_var 4))))) (fun _ _ _ _ _ => (e_var 4))) e_int))) s_nil)
    (s_cons (s_asgH (e_tup (a_cons (e_ixU hu (e_br 1) (e_var 3)) (a_cons (e_ixU hu (e_br 1) e_int) a_nil))) (gH_tup rfl (gsH_cons (gH_ix 1 (e_br 1) e_int) (gsH_cons (gH_ix 1 (e_br 1) (e_var 3)) gsH_nil))))
    (s_one (s_expr (e_mut 2 PySem.F.plainAttrs_list PySem.F.slot_list_append PySem.F.type_list_append mt_append ms_append (e_br 2) (a_cons (e_add (e_var 3) e_int) a_nil))))))))
    (s_one (s_ret (e_mv 2))))))
abbrev N_fewest_swaps : List Str := ["order"]
theorem sc_fewest_swaps : FnScope N_fewest_swaps ["order"] (defScope s_fewest_swaps) := ⟨rfl, rfl, rfl, by decide +kernel, rfl, by decide +kernel, by decide +kernel⟩
def m_fewest_swaps : MS := (mSeq (mDrop (mCall f_look_order [.fz] [] (maCons (mVar 0) maNil)))
  (mRet (mCall f_swaps_for [.fz] [] (maCons (mVar 0) maNil))))
def f_fewest_swaps : En → Option (D × En) := mFun [.fz] 0 .ow m_fewest_swaps
theorem ok_fewest_swaps {P : Program} {w : World} {K : PySem.W.Frag} {mg : Str → Option Value} {base : Heap} {f : Addr} {fd : FuncData} (F : FunD K "fewest_swaps" "fewest_swaps" (defArgs s_fewest_swaps) (defBody s_fewest_swaps) (defScope s_fewest_swaps) [] [] f fd) (B : Bt mg) (C : Ct K w mg) (G_look_order : FnX P w K mg base "look_order" 2 ["order"] (spF K [.fz] f_look_order .fz)) (G_swaps_for : FnX P w K mg base "swaps_for" 1 ["order"] (spF K [.fz] f_swaps_for .ow)) :
    FnG P w K mg base CX0 3 f fd ["order"] (spF K [.fz] f_fewest_swaps .ow) :=
  fn_data (Oi := [.fz]) (Ol := []) (r := .ow) F sc_fewest_swaps rfl rfl rfl (fun _ z => by cases z) fun cd A outer s H E hgd hr =>
    have hu := hu65 hr
    (s_cons (s_expr (e_callX G_look_order hgd hr (a_cons (e_var 0) a_nil)))
    (s_one (s_ret (e_callX G_swaps_for hgd hr (a_cons (e_var 0) a_nil)))))
def mx_fewest_swaps : MSX := (mSeqX (mDropX (mCallX fx_look_order [.fz] [] (maCons (mVar 0) maNil)))
  (xS (mRet (mCall f_swaps_for [.fz] [] (maCons (mVar 0) maNil)))))
def fx_fewest_swaps : MX := mFunX [.fz] 0 .fz mx_fewest_swaps
theorem okx_fewest_swaps {P : Program} {w : World} {K : PySem.W.Frag} {mg : Str → Option Value} {base : Heap} {f : Addr} {fd : FuncData} (F : FunD K "fewest_swaps" "fewest_swaps" (defArgs s_fewest_swaps) (defBody s_fewest_swaps) (defScope s_fewest_swaps) [] [] f fd) (B : Bt mg) (C : Ct K w mg) (G_swaps_for : FnX P w K mg base "swaps_for" 1 ["order"] (spF K [.fz] f_swaps_for .ow)) (Gx_look_order : FnXx P w K mg base "look_order" 2 ["order"] (spX K [.fz] fx_look_order .fz)) :
    FnG P w K mg base (L2.CX P w) 3 f fd ["order"] (spX K [.fz] fx_fewest_swaps .fz) :=
  fn_dataX (Oi := [.fz]) (Ol := []) (r := .fz) F sc_fewest_swaps rfl rfl rfl (fun _ z => by cases z) fun cd A outer s H E hgd hr tk =>
    have hu := hu65 hr
    (x_cons (x_expr (x_call Gx_look_order tk hgd hr (a_cons (e_var 0) a_nil)))
    (x_one (x_s (s_ret (e_frz (e_callX G_swaps_for hgd hr (a_cons (e_var 0) a_nil)))))))
abbrev N__law_town : List Str := ["_law_script"]
theorem sc__law_town : FnScope N__law_town ["_law_script"] (defScope s__law_town) := ⟨rfl, rfl, rfl, by decide +kernel, rfl, by decide +kernel, by decide +kernel⟩
theorem ok__law_town {P : Program} {w : World} {K : PySem.W.Frag} {mg : Str → Option Value} {base : Heap} {f : Addr} {fd : FuncData} (F : FunD K "_law_town" "_law_town" (defArgs s__law_town) (defBody s__law_town) (defScope s__law_town) [] [] f fd) (B : Bt mg) (C : Ct K w mg) :
    FnG P w K mg base CX0 1 f fd ["_law_script"] (spF K [.fz] f__law_town .ow) :=
  fn_data (Oi := [.fz]) (Ol := []) (r := .ow) F sc__law_town rfl rfl rfl (fun _ z => by cases z) fun cd A outer s H E hgd hr =>
    have hu := hu65 hr
    (s_one (s_ret (e_op op_catS s_cat (e_lst (a_cons e_int a_nil)) (e_list B (a_cons (e_var 0) a_nil)))))
abbrev N__law_draw : List Str := ["_law_script", "_law_town_here", "_law_many", "_law_at", "_law_left", "_law_number"]
theorem sc__law_draw : FnScope N__law_draw ["_law_script", "_law_town_here", "_law_many"] (defScope s__law_draw) := ⟨rfl, rfl, rfl, by decide +kernel, rfl, by decide +kernel, by decide +kernel⟩
theorem ok__law_draw {P : Program} {w : World} {K : PySem.W.Frag} {mg : Str → Option Value} {base : Heap} {f : Addr} {fd : FuncData} (F : FunD K "_law_draw" "_law_draw" (defArgs s__law_draw) (defBody s__law_draw) (defScope s__law_draw) [] [] f fd) (B : Bt mg) (C : Ct K w mg) :
    FnG P w K mg base CX0 1 f fd ["_law_script", "_law_town_here", "_law_many"] (spF K [.fz, .io, .fz] f__law_draw .fz) :=
  fn_data (Oi := [.fz, .io, .fz]) (Ol := [.fz, .fz, .fz]) (r := .fz) F sc__law_draw rfl rfl rfl (fun _ z => by cases z) fun cd A outer s H E hgd hr =>
    have hu := hu65 hr
    (s_cons (s_putU 1 hu rfl (e_br 1) e_int (e_add (e_ixU hu (e_br 1) e_int) e_int))
    (s_cons (s_if (t_eq hu (e_var 0) (e_lst a_nil)) (s_one (s_ret (e_op op_modN s_mod (e_op op_fdivX s_divX (e_op op_mulW s_mul (e_op op_mulW s_mul (e_ixU hu (e_br 1) e_int) (e_ixU hu (e_br 1) e_int)) e_int) e_int) (e_var 2)))) s_nil)
    (s_cons (s_setF 3 sc__law_draw.nd (e_op op_modN s_mod (e_ixU hu (e_br 1) e_int) (e_lenU B (a_cons (e_var 0) a_nil))))
    (s_cons (s_setF 4 sc__law_draw.nd (e_ixU hu (e_br 1) (e_add e_int (e_var 3))))
    (s_cons (s_if (PW.pt (w_and (t_cmp op_ge s_ge (e_ixU hu (e_var 0) (e_var 3)) (e_op op_pow s_pow e_int e_int)) (w_and1 (t_cmp op_gt s_gt (e_var 4) e_int)))) (s_cons (s_putU 1 hu rfl (e_br 1) (e_add e_int (e_var 3)) (e_op op_fdivX s_divX (e_var 4) (e_var 2)))
    (s_one (s_ret (e_op op_modN s_mod (e_var 4) (e_var 2))))) s_nil)
    (s_cons (s_setF 5 sc__law_draw.nd (e_op op_modN s_mod (e_add (e_ixU hu (e_var 0) (e_var 3)) (e_op op_mulW s_mul e_int (e_ixU hu (e_br 1) e_int))) e_int))
    (s_cons (s_setF 5 sc__law_draw.nd (e_op op_modN s_mod (e_op op_pow s_pow (e_var 5) e_int) e_int))
    (s_one (s_ret (e_op op_modN s_mod (e_op op_fdivX s_divX (e_op op_modN s_mod (e_add (e_op op_mulW s_mul (e_op op_fdivX s_divX (e_var 5) e_int) e_int) (e_var 5)) e_int) e_int) (e_var 2)))))))))))
abbrev N__law_whole : List Str := ["_law_thing"]
theorem sc__law_whole : FnScope N__law_whole ["_law_thing"] (defScope s__law_whole) := ⟨rfl, rfl, rfl, by decide +kernel, rfl, by decide +kernel, by decide +kernel⟩
theorem ok__law_whole {P : Program} {w : World} {K : PySem.W.Frag} {mg : Str → Option Value} {base : Heap} {f : Addr} {fd : FuncData} (F : FunD K "_law_whole" "_law_whole" (defArgs s__law_whole) (defBody s__law_whole) (defScope s__law_whole) [] [] f fd) (B : Bt mg) (C : Ct K w mg) :
    FnG P w K mg base CX0 1 f fd ["_law_thing"] (spF K [.fz] f__law_whole .fz) :=
  fn_data (Oi := [.fz]) (Ol := []) (r := .fz) F sc__law_whole rfl rfl rfl (fun _ z => by cases z) fun cd A outer s H E hgd hr =>
    have hu := hu65 hr
    (s_one (s_ret (e_and (e_isi B.isinstance B.int (by decide +kernel) (e_var 0)) (e_one (e_not (e_isi B.isinstance B.bool (by decide +kernel) (e_var 0)))))))
abbrev N__law_wholes : List Str := ["_law_thing", "_law_one_here"]
theorem sc__law_wholes : FnScope N__law_wholes ["_law_thing"] (defScope s__law_wholes) := ⟨rfl, rfl, rfl, by decide +kernel, rfl, by decide +kernel, by decide +kernel⟩
abbrev O__law_wholes : List Kd := [.fz, .fz]
theorem ok__law_wholes {P : Program} {w : World} {K : PySem.W.Frag} {mg : Str → Option Value} {base : Heap} {f : Addr} {fd : FuncData} (F : FunD K "_law_wholes" "_law_wholes" (defArgs s__law_wholes) (defBody s__law_wholes) (defScope s__law_wholes) [] [] f fd) (B : Bt mg) (C : Ct K w mg) (G__law_whole : FnX P w K mg base "_law_whole" 1 ["_law_thing"] (spF K [.fz] f__law_whole .fz)) :
    FnG P w K mg base CX0 2 f fd ["_law_thing"] (spF K [.fz] f__law_wholes .fz) :=
  fn_data (Oi := [.fz]) (Ol := [.fz]) (r := .fz) F sc__law_wholes rfl rfl rfl (fun _ z => by cases z) fun cd A outer s H E hgd hr =>
    have hu := hu65 hr
    (s_one (s_ret (e_and (e_isi B.isinstance B.list (by decide +kernel) (e_var 0)) (e_one (e_eq hu (e_lc (own := [("_law_one_here", 1)]) (L := O__law_wholes) rfl sc__law_wholes.nd (i_any (e_var 0)) (blkOk_by (N := N__law_wholes) (sc := defScope s__law_wholes) (by decide +kernel)) (fun _ _ _ _ _ => (g_name 1 sc__law_wholes.nd)) (fun _ _ _ _ _ => (ts_one (t_not (t_val (e_callX G__law_whole hgd hr (a_cons (e_var 1) a_nil)))))) (fun _ _ _ _ _ => (e_var 1))) (e_lst a_nil))))))
abbrev N__law_word : List Str := ["_law_caught", "_law_kinds"]
theorem sc__law_word : FnScope N__law_word ["_law_caught"] (defScope s__law_word) := ⟨rfl, rfl, rfl, by decide +kernel, rfl, by decide +kernel, by decide +kernel⟩
theorem ok__law_word {P : Program} {w : World} {K : PySem.W.Frag} {mg : Str → Option Value} {base : Heap} {f : Addr} {fd : FuncData} {xc : List Str} (F : FunD K "_law_word" "_law_word" (defArgs s__law_word) (defBody s__law_word) (defScope s__law_word) [] [] f fd) (B : Bt mg) (M : ExM K mg) (W : ∀ c, c ∈ xc → ExW K mg c) :
    FnG P w K mg base CX0 2 f fd ["_law_caught"] (spWord K xc) :=
  fn_word F sc__law_word W fun cd A outer s H E hgd hr c w =>
    have hu := hu65 hr
    have me : ∀ t, t ∈ eightX → mg t = some (clsV K t) := M.all
    ⟨tWord K c, pss_cons (ps_if (pt_not (pt_val (pe_callB (call_isX w.cls) (by rfl) B.isinstance (by decide +kernel) (pa_cons (pe_var (i := 0) rfl (.inl rfl)) (pa_cons (pe_bltn (v := .ty "RuntimeError") (by rfl) M.run (by decide +kernel) rfl) pa_nil)) ))) (pss_one (ps_ret (pe_un un_neg pe_int))) pss_nil)
    (pss_cons (ps_set (i := 1) sc__law_word.nd rfl (.inl rfl) (pe_lst (pa_cons (pe_callB (call_isX w.cls) (by rfl) B.isinstance (by decide +kernel) (pa_cons (pe_var (i := 0) rfl (.inl rfl)) (pa_cons (pe_glob (v := .ref (He.ga K "BadCode")) (by rfl) (me "BadCode" (by decide)) rfl) pa_nil)) )
      (pa_cons (pe_callB (call_isX w.cls) (by rfl) B.isinstance (by decide +kernel) (pa_cons (pe_var (i := 0) rfl (.inl rfl)) (pa_cons (pe_glob (v := .ref (He.ga K "BadNames")) (by rfl) (me "BadNames" (by decide)) rfl) pa_nil)) )
      (pa_cons (pe_callB (call_isX w.cls) (by rfl) B.isinstance (by decide +kernel) (pa_cons (pe_var (i := 0) rfl (.inl rfl)) (pa_cons (pe_glob (v := .ref (He.ga K "BadNumber")) (by rfl) (me "BadNumber" (by decide)) rfl) pa_nil)) ) pa_nil)))))
    (pss_cons (ps_set (i := 1) sc__law_word.nd rfl (.inl rfl) (pe_op op_catS (pe_var (i := 1) rfl (.inl rfl)) (pe_lst (pa_cons (pe_callB (call_isX w.cls) (by rfl) B.isinstance (by decide +kernel) (pa_cons (pe_var (i := 0) rfl (.inl rfl)) (pa_cons (pe_glob (v := .ref (He.ga K "Unsound")) (by rfl) (me "Unsound" (by decide)) rfl) pa_nil)) )
      (pa_cons (pe_callB (call_isX w.cls) (by rfl) B.isinstance (by decide +kernel) (pa_cons (pe_var (i := 0) rfl (.inl rfl)) (pa_cons (pe_glob (v := .ref (He.ga K "BadOrder")) (by rfl) (me "BadOrder" (by decide)) rfl) pa_nil)) )
      (pa_cons (pe_callB (call_isX w.cls) (by rfl) B.isinstance (by decide +kernel) (pa_cons (pe_var (i := 0) rfl (.inl rfl)) (pa_cons (pe_glob (v := .ref (He.ga K "BadText")) (by rfl) (me "BadText" (by decide)) rfl) pa_nil)) ) pa_nil))))))
    (pss_cons (ps_set (i := 1) sc__law_word.nd rfl (.inl rfl) (pe_op op_catS (pe_var (i := 1) rfl (.inl rfl)) (pe_lst (pa_cons (pe_callB (call_isX w.cls) (by rfl) B.isinstance (by decide +kernel) (pa_cons (pe_var (i := 0) rfl (.inl rfl)) (pa_cons (pe_glob (v := .ref (He.ga K "BadUnits")) (by rfl) (me "BadUnits" (by decide)) rfl) pa_nil)) )
      (pa_cons (pe_callB (call_isX w.cls) (by rfl) B.isinstance (by decide +kernel) (pa_cons (pe_var (i := 0) rfl (.inl rfl)) (pa_cons (pe_glob (v := .ref (He.ga K "BadBytes")) (by rfl) (me "BadBytes" (by decide)) rfl) pa_nil)) ) pa_nil)))))
    (pss_one (ps_ret (pe_ifExp (pt_cmpR (op_eqD (show (A.deeper (envOfC (PySem.Str.ofString "_law_word") (defScope s__law_word) s.heap.objs.size f cd)).units + 64 < cLine by omega)) (pe_bm PySem.F.plainAttrs_list PySem.F.slot_list_count PySem.F.type_list_count mt_lcountB (pe_var (i := 1) rfl (.inl rfl)) (pa_cons pe_bl pa_nil)) pe_int (by first | exact nomark _ | rfl))
      (pe_bm PySem.F.plainAttrs_list PySem.F.slot_list_index PySem.F.type_list_index (mt_indexD hu) (pe_var (i := 1) rfl (.inl rfl)) (pa_cons pe_bl pa_nil)) (pe_un un_neg pe_int))))))), fun a Q hE hQ => word_eval w hE hQ⟩
abbrev N__law_refused : List Str := ["_law_word_here", "_law_words"]
theorem sc__law_refused : FnScope N__law_refused ["_law_word_here"] (defScope s__law_refused) := ⟨rfl, rfl, rfl, by decide +kernel, rfl, by decide +kernel, by decide +kernel⟩
def m__law_refused : MS := (mSeq (mSet 1 (mLst (maCons (mC (.str "code")) (maCons (mC (.str "names")) (maCons (mC (.str "number")) (maCons (mC (.str "unsound")) (maCons (mC (.str "order")) (maCons (mC (.str "text")) (maCons (mC (.str "units")) (maCons (mC (.str "bytes")) maNil))))))))))
  (mRet (mTup (maCons (mC (.str "refused")) (maCons (mM_index (.fz) (mVar 1) [.fz] (maCons (mVar 0) maNil)) maNil)))))
def f__law_refused : En → Option (D × En) := mFun [.fz] 1 .fz m__law_refused
theorem ok__law_refused {P : Program} {w : World} {K : PySem.W.Frag} {mg : Str → Option Value} {base : Heap} {f : Addr} {fd : FuncData} (F : FunD K "_law_refused" "_law_refused" (defArgs s__law_refused) (defBody s__law_refused) (defScope s__law_refused) [] [] f fd) (B : Bt mg) (C : Ct K w mg) :
    FnG P w K mg base CX0 1 f fd ["_law_word_here"] (spF K [.fz] f__law_refused .fz) :=
  fn_data (Oi := [.fz]) (Ol := [.fz]) (r := .fz) F sc__law_refused rfl rfl rfl (fun _ z => by cases z) fun cd A outer s H E hgd hr =>
    have hu := hu65 hr
    (s_cons (s_setF 1 sc__law_refused.nd (e_frz (e_lst (a_cons e_str (a_cons e_str (a_cons e_str (a_cons e_str (a_cons e_str (a_cons e_str (a_cons e_str (a_cons e_str a_nil)))))))))))
    (s_one (s_ret (e_tup (a_cons e_str (a_cons (e_m_indexF hu (e_var 1) (a_cons (e_var 0) a_nil)) a_nil))))))
abbrev N__law_one : List Str := ["_law_way", "_law_order"]
theorem sc__law_one : FnScope N__law_one ["_law_way", "_law_order"] (defScope s__law_one) := ⟨rfl, rfl, rfl, by decide +kernel, rfl, by decide +kernel, by decide +kernel⟩
def m__law_one : MS := (mRet (mCall f_fewest_swaps [.fz] [] (maCons (mVar 1) maNil)))
def f__law_one : En → Option (D × En) := mFun [.fz, .fz] 0 .ow m__law_one
theorem ok__law_one {P : Program} {w : World} {K : PySem.W.Frag} {mg : Str → Option Value} {base : Heap} {f : Addr} {fd : FuncData} (F : FunD K "_law_one" "_law_one" (defArgs s__law_one) (defBody s__law_one) (defScope s__law_one) [] [] f fd) (B : Bt mg) (C : Ct K w mg) (G_fewest_swaps : FnX P w K mg base "fewest_swaps" 3 ["order"] (spF K [.fz] f_fewest_swaps .ow)) :
    FnG P w K mg base CX0 4 f fd ["_law_way", "_law_order"] (spF K [.fz, .fz] f__law_one .ow) :=
  fn_data (Oi := [.fz, .fz]) (Ol := []) (r := .ow) F sc__law_one rfl rfl rfl (fun _ z => by cases z) fun cd A outer s H E hgd hr =>
    have hu := hu65 hr
    (s_one (s_ret (e_callX G_fewest_swaps hgd hr (a_cons (e_var 1) a_nil))))
def mx__law_one : MSX := (mRetX (mCallX fx_fewest_swaps [.fz] [] (maCons (mVar 1) maNil)))
def fx__law_one : MX := mFunX [.fz, .fz] 0 .fz mx__law_one
theorem okx__law_one {P : Program} {w : World} {K : PySem.W.Frag} {mg : Str → Option Value} {base : Heap} {f : Addr} {fd : FuncData} (F : FunD K "_law_one" "_law_one" (defArgs s__law_one) (defBody s__law_one) (defScope s__law_one) [] [] f fd) (B : Bt mg) (C : Ct K w mg) (Gx_fewest_swaps : FnXx P w K mg base "fewest_swaps" 3 ["order"] (spX K [.fz] fx_fewest_swaps .fz)) :
    FnG P w K mg base (L2.CX P w) 4 f fd ["_law_way", "_law_order"] (spX K [.fz, .fz] fx__law_one .fz) :=
  fn_dataX (Oi := [.fz, .fz]) (Ol := []) (r := .fz) F sc__law_one rfl rfl rfl (fun _ z => by cases z) fun cd A outer s H E hgd hr tk =>
    have hu := hu65 hr
    (x_one (x_ret (x_call Gx_fewest_swaps tk hgd hr (a_cons (e_var 1) a_nil))))
abbrev N__law_told : List Str := ["_law_way", "_law_some", "_law_caught", "_law_found", "e"]
theorem sc__law_told : FnScope N__law_told ["_law_way", "_law_some"] (defScope s__law_told) := ⟨rfl, rfl, rfl, by decide +kernel, rfl, by decide +kernel, by decide +kernel⟩
theorem ok__law_told {P : Program} {w : World} {K : PySem.W.Frag} {mg : Str → Option Value} {base : Heap} {f : Addr} {fd : FuncData} {xc : List Str} {L n : Nat} {f1 : MX} (F : FunD K "_law_told" "_law_told" (defArgs s__law_told) (defBody s__law_told) (defScope s__law_told) [] [] f fd) (B : Bt mg) (M : ExM K mg) (W : ∀ c, c ∈ xc → ExW K mg c)
    (G : FnXx P w K mg base "_law_one" n ["_law_way", "_law_order"] (spX K [.fz, .fz] f1 .fz)) (hn : n ≤ L) (h2 : 2 ≤ L) (Gw : FnX P w K mg base "_law_word" 2 ["_law_caught"] (spWord K xc)) :
    FnG P w K mg base CX0 (L + 1) f fd ["_law_way", "_law_some"] (spF K [.fz, .fz] (fTold xc f1) .fz) := by
  obtain ⟨fw, fdw, g1, g2, g3, g4⟩ := Gw.ex
  exact fn_told rfl F sc__law_told W fun cd A outer s H E hgd hr =>
    pss_cons (s_setF 2 sc__law_told.nd e_non) (pss_cons (s_setF 3 sc__law_told.nd e_non)
    (pss_cons (ps_try_x (X := cxOf CX0 P w K mg base N__law_told "_law_told" (defScope s__law_told) f cd A outer s H E) (x := "MillError") (n := "e") (y := "_law_caught") (c := clsV K "MillError") (i := 4) (j := 2) (tb := fun W => tSx K O_told W (mOne f1) .fz) rfl rfl rfl sc__law_told.nd rfl rfl rfl rfl ⟨rfl, rfl, .inl M.mill⟩ (by decide) (by decide) rfl fun W pn xe tk => x_one (x_setF 3 sc__law_told.nd (x_call G tk hgd hr (a_cons (e_var 0) (a_cons (e_var 1) a_nil)) (hj := hn))))
    (pss_or (pss_cons (s_if (t_cmp op_isN1 s_isN (e_var 2) e_non) (s_one (s_ret (e_tup (a_cons e_str (a_cons (e_var 3) a_nil))))) s_nil) (pss_never fun _ _ _ z => z))
      (pss_cons (ps_if (pt_cmpR op_isN1 (pe_var (i := 2) rfl (.inl rfl)) pe_non (by first | exact nomark _ | rfl)) (pss_never fun _ _ _ z => z) pss_nil)
        (pss_one (ps_ret (pe_tup (pa_cons pe_str (pa_cons (pe_callG g1 hgd (hr.mono h2) g2 g3 g4 .nil pass0 (pa_cons (pe_var (i := 2) rfl (.inl rfl)) pa_nil)) pa_nil)))))))))
def f__law_told : En → Option (D × En) := fTold xcL fx__law_one
abbrev N__law_moved : List Str := ["_law_order", "_law_many", "_law_now", "_law_n", "_law_top"]
theorem sc__law_moved : FnScope N__law_moved ["_law_order", "_law_many"] (defScope s__law_moved) := ⟨rfl, rfl, rfl, by decide +kernel, rfl, by decide +kernel, by decide +kernel⟩
abbrev O__law_moved : List Kd := [.fz, .fz, .ow, .fz, .fz]
def m__law_moved : MS := (mSeq (mSet 2 (mLrng1 (mOp [.fz] (maCons (mVar 0) maNil) dLenU)))
  (mSeq (mFor (mItU (mVar 1)) (mgN 3) (mSeq (mSet 4 (m2 (.br 2) (.fz) (mBr 2) (mC (.int 0)) dIxU))
  (mSeq (mPutU 2 (mC (.int 0)) (m2 (.br 2) (.fz) (mBr 2) (m2 (.fz) (.fz) (mVar 3) (mC (.int 1)) dSub) dIxU))
  (mPutU 2 (m2 (.fz) (.fz) (mVar 3) (mC (.int 1)) dSub) (mVar 4)))))
  (mRet (mMv 2))))
def f__law_moved : En → Option (D × En) := mFun [.fz, .fz] 3 .ow m__law_moved
theorem ok__law_moved {P : Program} {w : World} {K : PySem.W.Frag} {mg : Str → Option Value} {base : Heap} {f : Addr} {fd : FuncData} (F : FunD K "_law_moved" "_law_moved" (defArgs s__law_moved) (defBody s__law_moved) (defScope s__law_moved) [] [] f fd) (B : Bt mg) (C : Ct K w mg) :
    FnG P w K mg base CX0 1 f fd ["_law_order", "_law_many"] (spF K [.fz, .fz] f__law_moved .ow) :=
  fn_data (Oi := [.fz, .fz]) (Ol := [.ow, .fz, .fz]) (r := .ow) F sc__law_moved rfl rfl rfl (fun _ z => by cases z) fun cd A outer s H E hgd hr =>
    have hu := hu65 hr
    (s_cons (s_setO 2 sc__law_moved.nd (e_lrng1 B rfl (e_lenU B (a_cons (e_var 0) a_nil))))
    (s_cons (s_for (L := O__law_moved) PassesOwn.never rfl (i_any (e_var 1)) (g_name 3 sc__law_moved.nd) (s_cons (s_setF 4 sc__law_moved.nd (e_ixU hu (e_br 2) e_int))
    (s_cons (s_putU 2 hu rfl (e_br 2) e_int (e_ixU hu (e_br 2) (e_op op_sub s_sub (e_var 3) e_int)))
    (s_one (s_putU 2 hu rfl (e_br 2) (e_op op_sub s_sub (e_var 3) e_int) (e_var 4))))))
    (s_one (s_ret (e_mv 2)))))
abbrev N__law_swap : List Str := ["_law_some", "_law_n", "_law_top"]
theorem sc__law_swap : FnScope N__law_swap ["_law_some", "_law_n"] (defScope s__law_swap) := ⟨rfl, rfl, rfl, by decide +kernel, rfl, by decide +kernel, by decide +kernel⟩
theorem ok__law_swap {P : Program} {w : World} {K : PySem.W.Frag} {mg : Str → Option Value} {base : Heap} {f : Addr} {fd : FuncData} (F : FunD K "_law_swap" "_law_swap" (defArgs s__law_swap) (defBody s__law_swap) (defScope s__law_swap) [] [] f fd) (B : Bt mg) (C : Ct K w mg) :
    FnG P w K mg base CX0 1 f fd ["_law_some", "_law_n"] spSwap :=
  fn_swap F sc__law_swap rfl rfl fun cd A outer s H E hgd hr => (pss_cons (ps_asg (pe_ix ix_listK (pe_var (i := 0) rfl (by first | exact Or.inl rfl | exact Or.inr (Or.inl rfl) | exact Or.inr (Or.inr rfl))) pe_int (fun _ _ => rfl)) (pg_name (i := 2) sc__law_swap.nd rfl (by first | exact Or.inl rfl | exact Or.inr rfl))) (pss_cons (ps_asg (pe_ix ix_listK (pe_var (i := 0) rfl (by first | exact Or.inl rfl | exact Or.inr (Or.inl rfl) | exact Or.inr (Or.inr rfl))) (pe_op op_sub (pe_var (i := 1) rfl (by first | exact Or.inl rfl | exact Or.inr (Or.inl rfl) | exact Or.inr (Or.inr rfl))) pe_int) (fun _ _ => rfl)) (pg_sub (pe_var (i := 0) rfl (by first | exact Or.inl rfl | exact Or.inr (Or.inl rfl) | exact Or.inr (Or.inr rfl))) pe_int set_list (fun _ => rfl))) (pss_cons (ps_asg (pe_var (i := 2) rfl (by first | exact Or.inl rfl | exact Or.inr (Or.inl rfl) | exact Or.inr (Or.inr rfl))) (pg_sub (pe_var (i := 0) rfl (by first | exact Or.inl rfl | exact Or.inr (Or.inl rfl) | exact Or.inr (Or.inr rfl))) (pe_op op_sub (pe_var (i := 1) rfl (by first | exact Or.inl rfl | exact Or.inr (Or.inl rfl) | exact Or.inr (Or.inr rfl))) pe_int) set_list (fun _ => rfl))) (pss_one (ps_ret (pe_var (i := 0) rfl (by first | exact Or.inl rfl | exact Or.inr (Or.inl rfl) | exact Or.inr (Or.inr rfl))))))))
abbrev N__law_layers : List Str := ["_law_order", "_law_layer", "_law_seen", "_law_count", "_law_later", "_law_one_here", "_law_n", "_law_other"]
theorem sc__law_layers : FnScope N__law_layers ["_law_order"] (defScope s__law_layers) := ⟨rfl, rfl, rfl, by decide +kernel, rfl, by decide +kernel, by decide +kernel⟩
def m__law_layers : MS := lyM
def f__law_layers : En → Option (D × En) := mFun [.fz] 7 .fz m__law_layers
theorem ok__law_layers {P : Program} {w : World} {K : PySem.W.Frag} {mg : Str → Option Value} {base : Heap} {f : Addr} {fd : FuncData} (F : FunD K "_law_layers" "_law_layers" (defArgs s__law_layers) (defBody s__law_layers) (defScope s__law_layers) [] [] f fd) (B : Bt mg) (C : Ct K w mg) (G__law_swap : FnX P w K mg base "_law_swap" 1 ["_law_some", "_law_n"] spSwap) :
    FnG P w K mg base CX0 2 f fd ["_law_order"] (spF K [.fz] f__law_layers .fz) :=
  fn_data (Oi := [.fz]) (Ol := [.fz, .fz, .fz, .fz, .fz, .fz, .fz]) (r := .fz) F sc__law_layers rfl rfl rfl (fun _ z => by cases z) fun cd A outer s H E hgd hr =>
    have hu := hu65 hr
    (PSsi (pss_cons (ps_asg (pe_dispT (up1 hu) (pe_tupRg rfl rfl B.tuple (prg_1 rfl B.range (pe_callB call_lenQ rfl B.len boot_len (pa_cons (pe_var (i := 0) rfl (by first | exact Or.inl rfl | exact Or.inr (Or.inl rfl) | exact Or.inr (Or.inr rfl))) pa_nil)))) pe_bl) (pg_name (i := 1) sc__law_layers.nd rfl (by first | exact Or.inl rfl | exact Or.inr rfl))) (pss_cons (ps_asg (pe_callTy (call_dictT1q (up3 hu)) rfl B.dict (by decide +kernel) (pa_cons (pe_var (i := 1) rfl (by first | exact Or.inl rfl | exact Or.inr (Or.inl rfl) | exact Or.inr (Or.inr rfl))) pa_nil)) (pg_name (i := 2) sc__law_layers.nd rfl (by first | exact Or.inl rfl | exact Or.inr rfl))) (pss_cons (ps_asg pe_int (pg_name (i := 3) sc__law_layers.nd rfl (by first | exact Or.inl rfl | exact Or.inr rfl))) (pss_cons (ps_while PassesOwn.never (pt_cmp (pc_dnotin (up1 hu) (pe_tupleOf rfl B.tuple (pe_var (i := 0) rfl (by first | exact Or.inl rfl | exact Or.inr (Or.inl rfl) | exact Or.inr (Or.inr rfl)))) (pe_var (i := 2) rfl (by first | exact Or.inl rfl | exact Or.inr (Or.inl rfl) | exact Or.inr (Or.inr rfl))))) (pss_cons (ps_asg pe_dnewT (pg_name (i := 4) sc__law_layers.nd rfl (by first | exact Or.inl rfl | exact Or.inr rfl))) (pss_cons (ps_lock (ps_for PassesOwn.never rfl (pi_keys (pe_var (i := 1) rfl (by first | exact Or.inl rfl | exact Or.inr (Or.inl rfl) | exact Or.inr (Or.inr rfl)))) (pg_name (i := 5) sc__law_layers.nd rfl (by first | exact Or.inl rfl | exact Or.inr rfl)) (pss_one (ps_for PassesOwn.never rfl (pi_range2 rfl B.range (pa_cons pe_int (pa_cons (pe_op op_add (pe_callB call_lenQ rfl B.len boot_len (pa_cons (pe_var (i := 0) rfl (by first | exact Or.inl rfl | exact Or.inr (Or.inl rfl) | exact Or.inr (Or.inr rfl))) pa_nil)) pe_int) pa_nil))) (pg_name (i := 6) sc__law_layers.nd rfl (by first | exact Or.inl rfl | exact Or.inr rfl)) (pss_cons (ps_asg (pe_tupleOf rfl B.tuple (e_callSp G__law_swap hgd hr (pa_cons (pe_callTy call_lstQ rfl B.list (by decide +kernel) (pa_cons (pe_var (i := 5) rfl (by first | exact Or.inl rfl | exact Or.inr (Or.inl rfl) | exact Or.inr (Or.inr rfl))) pa_nil)) (pa_cons (pe_var (i := 6) rfl (by first | exact Or.inl rfl | exact Or.inr (Or.inl rfl) | exact Or.inr (Or.inr rfl))) pa_nil)))) (pg_name (i := 7) sc__law_layers.nd rfl (by first | exact Or.inl rfl | exact Or.inr rfl))) (pss_one (ps_if (pt_cmp (pc_dnotin (up1 hu) (pe_var (i := 7) rfl (by first | exact Or.inl rfl | exact Or.inr (Or.inl rfl) | exact Or.inr (Or.inr rfl))) (pe_var (i := 2) rfl (by first | exact Or.inl rfl | exact Or.inr (Or.inl rfl) | exact Or.inr (Or.inr rfl))))) (pss_cons (ps_dput (up1 hu) (pe_var (i := 2) rfl (by first | exact Or.inl rfl | exact Or.inr (Or.inl rfl) | exact Or.inr (Or.inr rfl))) (pe_var (i := 7) rfl (by first | exact Or.inl rfl | exact Or.inr (Or.inl rfl) | exact Or.inr (Or.inr rfl))) pe_bl rfl) (pss_one (ps_dput (up1 hu) (pe_var (i := 4) rfl (by first | exact Or.inl rfl | exact Or.inr (Or.inl rfl) | exact Or.inr (Or.inr rfl))) (pe_var (i := 7) rfl (by first | exact Or.inl rfl | exact Or.inr (Or.inl rfl) | exact Or.inr (Or.inr rfl))) pe_bl rfl))) pss_nil))))))) (pss_cons (ps_asg (pe_var (i := 4) rfl (by first | exact Or.inl rfl | exact Or.inr (Or.inl rfl) | exact Or.inr (Or.inr rfl))) (pg_name (i := 1) sc__law_layers.nd rfl (by first | exact Or.inl rfl | exact Or.inr rfl))) (pss_one (ps_asg (pe_op op_add (pe_var (i := 3) rfl (by first | exact Or.inl rfl | exact Or.inr (Or.inl rfl) | exact Or.inr (Or.inr rfl))) pe_int) (pg_name (i := 3) sc__law_layers.nd rfl (by first | exact Or.inl rfl | exact Or.inr rfl)))))))) (pss_one (ps_ret (pe_var (i := 3) rfl (by first | exact Or.inl rfl | exact Or.inr (Or.inl rfl) | exact Or.inr (Or.inr rfl))))))))) (fun _ _ _ h => ly_t h))
abbrev N_law : List Str := ["_law_script", "_law_town_here", "_law_order", "_law_k", "_law_given_order", "_law_told_here", "_law_rings", "_law_seen", "_law_ring", "_law_away", "_law_bads", "_law_n", "_law_bad"]
theorem sc_law : FnScope N_law ["_law_script"] (defScope s_law) := ⟨rfl, rfl, rfl, by decide +kernel, rfl, by decide +kernel, by decide +kernel⟩
abbrev O_law : List Kd := [.fz, .ow, .ow, .fz, .fz, .fz, .fz, .fz, .ow, .fz, .fz, .fz, .fz]
def m_law : MS := (mSeq (mSet 1 (mCall f__law_town [.fz] [] (maCons (mVar 0) maNil)))
  (mSeq (mSet 2 (mLst maNil))
  (mSeq (mFor (mRng1 (maCons (m2 (.fz) (.fz) (mC (.int 1)) (mCall f__law_draw [.fz, .br 1, .fz] [] (maCons (mVar 0) (maCons (mBr 1) (maCons (mC (.int 9)) maNil)))) dAddU) maNil)) (mgN 3) (mDrop (mMut 2 "list" (maCons (mCall f__law_draw [.fz, .br 1, .fz] [] (maCons (mVar 0) (maCons (mBr 1) (maCons (m2 (.fz) (.fz) (mOp [.br 2] (maCons (mBr 2) maNil) dLenU) (mC (.int 1)) dAddU) maNil)))) (maCons (mVar 3) maNil)) dInsert)))
  (mSeq (mSet 4 (mOp [.br 2] (maCons (mBr 2) maNil) dList))
  (mSeq (mSet 5 (mCall f_fewest_swaps [.fz] [] (maCons (mVar 4) maNil)))
  (mFz 2 (mSeq (mIte (mOr (mNot (mTr (mCall f__law_wholes [.fz] [] (maCons (mVar 5) maNil)))) (mOr (mTr (m2 (.ow) (.fz) (mCall f__law_moved [.fz, .fz] [] (maCons (mVar 2) (maCons (mVar 5) maNil))) (mVar 2) dNeU)) (mTr (m2 (.fz) (.fz) (mVar 4) (mVar 2) dNeU)))) (mRet (mC (.bool false))) mSkip)
  (mSeq (mIte (mTr (m2 (.ow) (.ow) (mLc (mItU (mVar 5)) (mgN 11) (mOr (mTr (m2 (.fz) (.fz) (mVar 11) (mC (.int 2)) dLt)) (mTr (m2 (.fz) (.fz) (mVar 11) (mOp [.fz] (maCons (mVar 2) maNil) dLenU) dGt))) (mVar 11) [11]) (mLst maNil) dNeU)) (mRet (mC (.bool false))) mSkip)
  (mSeq (mSet 6 (mC (.int 0)))
  (mSeq (mSet 7 (mLst maNil))
  (mSeq (mFor (mRng1 (maCons (mOp [.fz] (maCons (mVar 2) maNil) dLenU) maNil)) (mgN 3) (mIte (mTr (m2 (.fz) (.fz) (mVar 3) (mVar 7) dNinU)) (mSeq (mSet 8 (mLst (maCons (mVar 3) maNil)))
  (mSeq (mWhile (mTr (m2 (.fz) (.fz) (m2 (.fz) (.fz) (mVar 2) (m2 (.br 8) (.fz) (mBr 8) (m1 (.fz) (mC (.int 1)) dNeg) dIxU) dIxU) (mVar 3) dNeU)) (mDrop (mMut 8 "list" (maCons (m2 (.fz) (.fz) (mVar 2) (m2 (.br 8) (.fz) (mBr 8) (m1 (.fz) (mC (.int 1)) dNeg) dIxU) dIxU) maNil) dAppend)))
  (mSeq (mSet 7 (m2 (.fz) (.br 8) (mVar 7) (mBr 8) dAddU))
  (mSet 6 (m2 (.fz) (.fz) (mVar 6) (mOp [.fz] (maCons (mAndV (m2 (.fz) (.br 8) (mC (.int 0)) (mBr 8) dNinU) (m2 (.fz) (.fz) (mOp [.br 8] (maCons (mBr 8) maNil) dLenU) (mC (.int 1)) dGt)) maNil) dInt) dAddU))))) mSkip))
  (mSeq (mSet 9 (mLc (mRng2 (maCons (mC (.int 1)) (maCons (mOp [.fz] (maCons (mVar 2) maNil) dLenU) maNil))) (mgN 3) (mTr (m2 (.fz) (.fz) (m2 (.fz) (.fz) (mVar 2) (mVar 3) dIxU) (mVar 3) dNeU)) (mVar 3) [3]))
  (mSeq (mIte (mTr (m2 (.fz) (.fz) (mOp [.fz] (maCons (mVar 5) maNil) dLenU) (m2 (.fz) (.fz) (mOp [.fz] (maCons (mVar 9) maNil) dLenU) (mVar 6) dAddU) dNeU)) (mRet (mC (.bool false))) mSkip)
  (mSeq (mIte (mAnd (mTr (m2 (.fz) (.fz) (mOp [.fz] (maCons (mVar 2) maNil) dLenU) (mC (.int 6)) dLt)) (mTr (m2 (.fz) (.fz) (mCall f__law_layers [.fz] [] (maCons (mVar 2) maNil)) (mOp [.fz] (maCons (mVar 5) maNil) dLenU) dNeU))) (mRet (mC (.bool false))) mSkip)
  (mSeq (mSet 10 (mLst (maCons (mC .none) (maCons (mOp [.fz] (maCons (mVar 2) maNil) dTuple) (maCons (mLst maNil) (maCons (m2 (.fz) (.ow) (mVar 2) (mLst (maCons (mC (.int 0)) maNil)) dAddU) (maCons (mLst (maCons (mC (.int 1)) maNil)) (maCons (mLst (maCons (mC (.bool true)) maNil)) (maCons (mLst (maCons (mC (.int 0)) (maCons (mC (.int 2)) maNil))) (maCons (mLrng1 (mC (.int 10))) (maCons (mLst (maCons (mC (.str "0")) maNil)) (maCons mDnew maNil))))))))))))
  (mRet (m2 (.ow) (.ow) (mLc (mItU (mVar 10)) (mgN 12) mYes (mCall f__law_told [.fz, .fz] [] (maCons (mC (.int 0)) (maCons (mVar 12) maNil))) [12]) (mRep (mLst (maCons (mCall f__law_refused [.fz] [] (maCons (mC (.str "order")) maNil)) maNil)) (mC (.int 10))) dEqU)))))))))))))))))
def f_law : En → Option (D × En) := mFun [.fz] 12 .fz m_law
theorem ok_law {P : Program} {w : World} {K : PySem.W.Frag} {mg : Str → Option Value} {base : Heap} {f : Addr} {fd : FuncData} (F : FunD K "law" "law" (defArgs s_law) (defBody s_law) (defScope s_law) [] [] f fd) (B : Bt mg) (C : Ct K w mg) (G__law_draw : FnX P w K mg base "_law_draw" 1 ["_law_script", "_law_town_here", "_law_many"] (spF K [.fz, .io, .fz] f__law_draw .fz)) (G__law_layers : FnX P w K mg base "_law_layers" 2 ["_law_order"] (spF K [.fz] f__law_layers .fz)) (G__law_moved : FnX P w K mg base "_law_moved" 1 ["_law_order", "_law_many"] (spF K [.fz, .fz] f__law_moved .ow)) (G__law_refused : FnX P w K mg base "_law_refused" 1 ["_law_word_here"] (spF K [.fz] f__law_refused .fz)) (G__law_told : FnX P w K mg base "_law_told" 5 ["_law_way", "_law_some"] (spF K [.fz, .fz] f__law_told .fz)) (G__law_town : FnX P w K mg base "_law_town" 1 ["_law_script"] (spF K [.fz] f__law_town .ow)) (G__law_wholes : FnX P w K mg base "_law_wholes" 2 ["_law_thing"] (spF K [.fz] f__law_wholes .fz)) (G_fewest_swaps : FnX P w K mg base "fewest_swaps" 3 ["order"] (spF K [.fz] f_fewest_swaps .ow)) :
    FnG P w K mg base CX0 6 f fd ["_law_script"] (spF K [.fz] f_law .fz) :=
  fn_data (Oi := [.fz]) (Ol := [.ow, .ow, .fz, .fz, .fz, .fz, .fz, .ow, .fz, .fz, .fz, .fz]) (r := .fz) F sc_law rfl rfl rfl (fun _ z => by cases z) fun cd A outer s H E hgd hr =>
    have hu := hu65 hr
    (s_cons (s_setO 1 sc_law.nd (e_callX G__law_town hgd hr (a_cons (e_var 0) a_nil)))
    (s_cons (s_setO 2 sc_law.nd (e_lst a_nil))
    (s_cons (s_for (L := O_law) PassesOwn.never rfl (i_rng1 B.range (a_cons (e_add e_int (e_callX G__law_draw hgd hr (a_cons (e_var 0) (a_cons (e_br 1) (a_cons e_int a_nil))))) a_nil)) (g_name 3 sc_law.nd) (s_one (s_expr (e_mut 2 PySem.F.plainAttrs_list PySem.F.slot_list_insert PySem.F.type_list_insert mt_insert ms_insert (e_br 2) (a_cons (e_callX G__law_draw hgd hr (a_cons (e_var 0) (a_cons (e_br 1) (a_cons (e_add (e_lenU B (a_cons (e_br 2) a_nil)) e_int) a_nil)))) (a_cons (e_var 3) a_nil))))))
    (s_cons (s_setF 4 sc_law.nd (e_frz (e_list B (a_cons (e_br 2) a_nil))))
    (s_cons (s_setF 5 sc_law.nd (e_frz (e_callX G_fewest_swaps hgd hr (a_cons (e_var 4) a_nil))))
    (ss_frz 2 (s_cons (s_if (PW.pt (w_or (t_not (t_val (e_callX G__law_wholes hgd hr (a_cons (e_var 5) a_nil)))) (w_or (t_ne hu (e_callX G__law_moved hgd hr (a_cons (e_var 2) (a_cons (e_var 5) a_nil))) (e_var 2)) (w_or1 (t_ne hu (e_var 4) (e_var 2)))))) (s_one (s_ret e_bl)) s_nil)
    (s_cons (s_if (t_ne hu (e_lc (own := [("_law_n", 11)]) (L := (List.set O_law 2 .fz)) rfl sc_law.nd (i_any (e_var 5)) (blkOk_by (N := N_law) (sc := defScope s_law) (by decide +kernel)) (fun _ _ _ _ _ => (g_name 11 sc_law.nd)) (fun _ _ _ _ _ => (ts_one (PW.pt (w_or (t_cmp op_lt s_lt (e_var 11) e_int) (w_or1 (t_cmp op_gt s_gt (e_var 11) (e_lenU B (a_cons (e_var 2) a_nil)))))))) (fun _ _ _ _ _ => (e_var 11))) (e_lst a_nil)) (s_one (s_ret e_bl)) s_nil)
    (s_cons (s_setF 6 sc_law.nd e_int)
    (s_cons (s_setF 7 sc_law.nd (e_frz (e_lst a_nil)))
    (s_cons (s_for (L := (List.set O_law 2 .fz)) PassesOwn.never rfl (i_rng1 B.range (a_cons (e_lenU B (a_cons (e_var 2) a_nil)) a_nil)) (g_name 3 sc_law.nd) (s_one (s_if (t_nin hu (e_var 3) (e_var 7)) (s_cons (s_setO 8 sc_law.nd (e_lst (a_cons (e_var 3) a_nil)))
    (s_cons (s_while PassesOwn.never (t_ne hu (e_ixU hu (e_var 2) (e_ixU hu (e_br 8) (e_un un_neg s_neg e_int))) (e_var 3)) (s_one (s_expr (e_mut 8 PySem.F.plainAttrs_list PySem.F.slot_list_append PySem.F.type_list_append mt_append ms_append (e_br 8) (a_cons (e_ixU hu (e_var 2) (e_ixU hu (e_br 8) (e_un un_neg s_neg e_int))) a_nil)))))
    (s_cons (s_setF 7 sc_law.nd (e_add (e_var 7) (e_br 8)))
    (s_one (s_setF 6 sc_law.nd (e_add (e_var 6) (e_int1 B (a_cons (e_and (e_nin hu e_int (e_br 8)) (e_one (e_cmp op_gt s_gt (e_lenU B (a_cons (e_br 8) a_nil)) e_int))) a_nil)))))))) s_nil)))
    (s_cons (s_lcF 9 (own := [("_law_k", 3)]) (L := (List.set O_law 2 .fz)) rfl sc_law.nd (i_rng2 B.range (a_cons e_int (a_cons (e_lenU B (a_cons (e_var 2) a_nil)) a_nil))) (blkOk_by (N := N_law) (sc := defScope s_law) (by decide +kernel)) (fun _ _ _ _ _ => (g_name 3 sc_law.nd)) (fun _ _ _ _ _ => (ts_one (t_ne hu (e_ixU hu (e_var 2) (e_var 3)) (e_var 3)))) (fun _ _ _ _ _ => (e_var 3)) (sw_true rfl rfl rfl (by decide +kernel)))
    (s_cons (s_if (t_ne hu (e_lenU B (a_cons (e_var 5) a_nil)) (e_add (e_lenU B (a_cons (e_var 9) a_nil)) (e_var 6))) (s_one (s_ret e_bl)) s_nil)
    (s_cons (s_if (PW.pt (w_and (t_cmp op_lt s_lt (e_lenU B (a_cons (e_var 2) a_nil)) e_int) (w_and1 (t_ne hu (e_callX G__law_layers hgd hr (a_cons (e_var 2) a_nil)) (e_lenU B (a_cons (e_var 5) a_nil)))))) (s_one (s_ret e_bl)) s_nil)
    (s_cons (s_setF 10 sc_law.nd (e_frz (e_lst (a_cons e_non (a_cons (e_tuple B (a_cons (e_var 2) a_nil)) (a_cons (e_frz (e_lst a_nil)) (a_cons (e_add (e_var 2) (e_lst (a_cons e_int a_nil))) (a_cons (e_frz (e_lst (a_cons e_int a_nil))) (a_cons (e_frz (e_lst (a_cons e_bl a_nil))) (a_cons (e_frz (e_lst (a_cons e_int (a_cons e_int a_nil)))) (a_cons (e_frz (e_lrng1 B rfl e_int)) (a_cons (e_frz (e_lst (a_cons e_str a_nil))) (a_cons (e_frz e_dnew) a_nil)))))))))))))
    (s_one (s_ret (e_eq hu (e_lc (own := [("_law_bad", 12)]) (L := (List.set O_law 2 .fz)) rfl sc_law.nd (i_any (e_var 10)) (blkOk_by (N := N_law) (sc := defScope s_law) (by decide +kernel)) (fun _ _ _ _ _ => (g_name 12 sc_law.nd)) (fun _ _ _ _ _ => ts_nil) (fun _ _ _ _ _ => (e_callX G__law_told hgd hr (a_cons e_int (a_cons (e_var 12) a_nil))))) (e_rep (e_lst (a_cons (e_callX G__law_refused hgd hr (a_cons e_str a_nil)) a_nil)) e_int)))))))))))))))))))
section
variable {α : Type}
theorem swpsC {x : α} : ∀ {ks : List Nat} {xs : List α}, (∀ k, k ∈ ks → 1 ≤ k ∧ k < xs.length) → ∃ js, (∀ k, k ∈ js → 1 ≤ k ∧ k < xs.length + 1) ∧ swps js (x :: xs) = x :: swps ks xs
  | [], xs, _ => ⟨[], fun k h => (by cases h), rfl⟩
  | k :: ks, xs, h => by
    have a := h k (.head _)
    obtain ⟨a1, u, b, v, rfl, e⟩ := swp_split a.1 a.2
    obtain ⟨js, h1, h2⟩ := swpsC (x := x) (ks := ks) (xs := swp k (a1 :: (u ++ b :: v))) fun j hj => by
      rw [swp_len]
      exact h j (.tail _ hj)
    rw [swp_len] at h1
    refine ⟨1 :: (k + 1) :: 1 :: js, fun j hj => ?_, ?_⟩
    · simp only [List.mem_cons] at hj
      rcases hj with rfl | rfl | rfl | hj
      · exact ⟨Nat.le_refl _, by omega⟩
      · exact ⟨by omega, by omega⟩
      · exact ⟨Nat.le_refl _, by omega⟩
      · exact h1 j hj
    · show swps js (swp 1 (swp (k + 1) (swp 1 (x :: a1 :: (u ++ b :: v))))) = _
      have e1 : swp 1 (x :: a1 :: (u ++ b :: v)) = a1 :: x :: (u ++ b :: v) := swp_form (u := []) (v := u ++ b :: v)
      have e2 : swp (k + 1) (a1 :: x :: (u ++ b :: v)) = b :: x :: (u ++ a1 :: v) := by
        rw [← e]
        exact swp_form (u := x :: u)
      have e3 : swp 1 (b :: x :: (u ++ a1 :: v)) = x :: b :: (u ++ a1 :: v) := swp_form (u := []) (v := u ++ a1 :: v)
      rw [e1, e2, e3]
      have e4 : swp k (a1 :: (u ++ b :: v)) = b :: (u ++ a1 :: v) := by
        rw [← e]
        exact swp_form
      show _ = x :: swps ks (swp k (a1 :: (u ++ b :: v)))
      rw [e4] at h2 ⊢
      exact h2
theorem perm_swps {xs ys : List α} (h : xs.Perm ys) : ∃ ks, (∀ k, k ∈ ks → 1 ≤ k ∧ k < xs.length) ∧ swps ks xs = ys := by
  induction h with
  | nil => exact ⟨[], fun k h => (by cases h), rfl⟩
  | cons x h ih =>
    obtain ⟨ks, h1, h2⟩ := ih
    obtain ⟨js, g1, g2⟩ := swpsC (x := x) h1
    exact ⟨js, g1, by rw [g2, h2]⟩
  | swap x y l => exact ⟨[1], fun k h => by
      rw [List.mem_singleton.mp h, List.length_cons, List.length_cons]
      omega, swp_form (u := []) (v := l)⟩
  | trans h1 h2 i1 i2 =>
    obtain ⟨ks, a1, a2⟩ := i1
    obtain ⟨js, b1, b2⟩ := i2
    refine ⟨ks ++ js, fun k hk => ?_, by rw [swps_app, a2, b2]⟩
    rcases List.mem_append.mp hk with hk | hk
    · exact a1 k hk
    · rw [h1.length_eq]
      exact b1 k hk
end
theorem perm_ord {o : List Nat} {n : Nat} (h : o.Perm (List.range n)) (h0 : 0 < n) : Ord o := by
  have hl : o.length = n := by rw [h.length_eq, List.length_range]
  obtain ⟨ks, h1, h2⟩ := perm_swps h.symm
  rw [List.length_range] at h1
  exact ⟨ks, by rw [hl]; exact h1, by omega, by rw [hl]; exact h2⟩
theorem Ord.perm {o : List Nat} (h : Ord o) : o.Perm (List.range o.length) := by
  obtain ⟨ks, h1, h2, h3⟩ := h
  have := swps_perm (ks := ks) (xs := List.range o.length) (fun k hk => by rw [List.length_range]; exact h1 k hk)
  rw [h3] at this
  exact this
def Fw (o : List Nat) : Nat → List Nat → Nat → Prop
  | x, [], y => o[x]? = some y
  | x, z :: c, y => o[x]? = some z ∧ Fw o z c y
theorem fw_snoc {o : List Nat} {y z : Nat} : ∀ {c : List Nat} {x : Nat}, Fw o x (c ++ [z]) y ↔ Fw o x c z ∧ o[z]? = some y
  | [], x => Iff.rfl
  | a :: c, x => by
    show (_ ∧ Fw o a (c ++ [z]) y) ↔ (_ ∧ Fw o a c z) ∧ _
    rw [fw_snoc (c := c), and_assoc]
theorem path_fw {o : List Nat} {y : Nat} : ∀ {c : List Nat} {x : Nat}, x < o.length → (∀ z, z ∈ c → z < o.length) → (Path o (List.range o.length) x c y ↔ Fw o y c.reverse x)
  | [], x, hx, _ => by
    show (List.range o.length)[x]? = o[y]? ↔ o[y]? = some x
    rw [List.getElem?_range hx]
    exact eq_comm
  | z :: c, x, hx, hc => by
    show ((List.range o.length)[x]? = o[z]? ∧ Path o (List.range o.length) z c y) ↔ _
    rw [List.reverse_cons, fw_snoc, path_fw (c := c) (hc z (.head _)) (fun w hw => hc w (.tail _ hw)), List.getElem?_range hx]
    constructor
    · rintro ⟨a, b⟩
      exact ⟨b, a.symm⟩
    · rintro ⟨a, b⟩
      exact ⟨b.symm, a⟩
structure Ring (o : List Nat) (k : Nat) (t : List Nat) : Prop where
  fp : Fw o k t k
  nd : (k :: t).Nodup
  lt : ∀ z, z ∈ k :: t → z < o.length
theorem ring_of {o : List Nat} (H : Ord o) {k : Nat} (hk : k < o.length) : ∃ t, Ring o k t := by
  obtain ⟨ks, h1, h2, h3⟩ := H
  obtain ⟨c0, cs, R, _⟩ := rep_of (ks := ks) (now := List.range o.length) (fun k hk => by rw [List.length_range]; exact h1 k hk) (by rw [List.length_range]; exact h2)
  rw [h3] at R
  have main : ∀ {x : Nat} {c : List Nat}, Path o (List.range o.length) x c x → k ∈ x :: c → (x :: c).Nodup → (∀ z, z ∈ x :: c → z < o.length) → ∃ t, Ring o k t := fun {x c} p hm nd lt => by
    obtain ⟨d, p2, q, _⟩ := turn_ring p hm
    have lt2 : ∀ z, z ∈ k :: d → z < o.length := fun z hz => lt z (q.mem_iff.mp hz)
    refine ⟨d.reverse, (path_fw (lt2 k (.head _)) fun z hz => lt2 z (.tail _ hz)).mp p2, ?_, fun z hz => lt2 z ?_⟩
    · have := q.nodup_iff.mpr nd
      rw [List.nodup_cons] at this ⊢
      exact ⟨fun h => this.1 (List.mem_reverse.mp h), (List.reverse_perm d).nodup_iff.mpr this.2⟩
    · rcases List.mem_cons.mp hz with h | h
      · exact h ▸ .head _
      · exact .tail _ (List.mem_reverse.mp h)
  have nd := R.nd
  have hm := R.mem hk
  rcases List.mem_cons.mp hm with h | h
  · refine main R.p0 (h ▸ .head _) ?_ fun z hz => R.lt ?_
    · rw [← List.cons_append] at nd
      exact (List.nodup_append.mp nd).1
    · rcases List.mem_cons.mp hz with h | h
      · exact h ▸ .head _
      · exact .tail _ (List.mem_append_left _ h)
  · rcases List.mem_append.mp h with h | h
    · refine main R.p0 (.tail _ h) ?_ fun z hz => R.lt ?_
      · rw [← List.cons_append] at nd
        exact (List.nodup_append.mp nd).1
      · rcases List.mem_cons.mp hz with h | h
        · exact h ▸ .head _
        · exact .tail _ (List.mem_append_left _ h)
    · obtain ⟨c, hc, hz⟩ := List.mem_flatMap.mp h
      refine main (R.ps c hc) hz ?_ fun z hz => R.lt (.tail _ (List.mem_append_right _ (flat_mem hc hz)))
      have n2 := (List.nodup_append.mp (List.nodup_cons.mp nd).2).2.1
      obtain ⟨u, v, rfl⟩ := List.append_of_mem hc
      obtain ⟨c1, c2⟩ := c
      rw [flat_app, flat_cons, ← List.cons_append] at n2
      exact (List.nodup_append.mp (List.nodup_append.mp n2).2.1).1
theorem fw_step {o : List Nat} {y : Nat} : ∀ {c : List Nat} {x : Nat}, Fw o x c y → ∀ z, z ∈ x :: c → ∃ w, o[z]? = some w ∧ (w = y ∨ w ∈ c)
  | [], x, h, z, hz => by
    rw [List.mem_singleton.mp hz]
    exact ⟨y, h, .inl rfl⟩
  | a :: c, x, h, z, hz => by
    rcases List.mem_cons.mp hz with rfl | hz
    · exact ⟨a, h.1, .inr (.head _)⟩
    · obtain ⟨w, h1, h2⟩ := fw_step h.2 z hz
      exact ⟨w, h1, h2.imp id (.tail _)⟩
theorem fw_end {o : List Nat} {y : Nat} {S : Nat → Prop} (hS : ∀ z w, S z → o[z]? = some w → S w) : ∀ {c : List Nat} {x : Nat}, Fw o x c y → ∀ z, z ∈ x :: c → S z → S y
  | [], x, h, z, hz, s => by
    rw [List.mem_singleton.mp hz] at s
    exact hS x y s h
  | a :: c, x, h, z, hz, s => by
    rcases List.mem_cons.mp hz with rfl | hz
    · exact fw_end hS h.2 a (.head _) (hS z a s h.1)
    · exact fw_end hS h.2 z hz s
structure RingsP (o : List Nat) (k : Nat) (rs : List (Nat × List Nat)) : Prop where
  rg : ∀ c, c ∈ rs → Ring o c.1 c.2
  nd : (flat rs).Nodup
  all : ∀ j, j < k → j ∈ flat rs
  fst : 0 < k → ∃ d r, rs = (0, d) :: r
  z : k = 0 → rs = []
theorem RingsP.closed {o : List Nat} {k : Nat} {rs : List (Nat × List Nat)} (h : RingsP o k rs) : ∀ z w, z ∈ flat rs → o[z]? = some w → w ∈ flat rs := fun z w hz hw => by
  obtain ⟨c, hc, hz⟩ := List.mem_flatMap.mp hz
  obtain ⟨w', e, h2⟩ := fw_step (h.rg c hc).fp z hz
  rw [hw] at e
  cases e
  refine flat_mem hc ?_
  rcases h2 with h2 | h2
  · exact h2 ▸ .head _
  · exact .tail _ h2
theorem RingsP.zero {o : List Nat} : RingsP o 0 [] := ⟨fun c h => (by cases h), List.nodup_nil, fun j h => absurd h (Nat.not_lt_zero _), fun h => absurd h (Nat.lt_irrefl _), fun _ => rfl⟩
theorem RingsP.skip {o : List Nat} {k : Nat} {rs : List (Nat × List Nat)} (h : RingsP o k rs) (hk : k ∈ flat rs) : RingsP o (k + 1) rs := by
  refine ⟨h.rg, h.nd, fun j hj => ?_, fun _ => ?_, fun z => by omega⟩
  · by_cases e : j = k
    · exact e ▸ hk
    · exact h.all j (by omega)
  · by_cases e : k = 0
    · rw [h.z e] at hk
      cases hk
    · exact h.fst (by omega)
theorem RingsP.more {o : List Nat} {k : Nat} {rs : List (Nat × List Nat)} {t : List Nat} (h : RingsP o k rs) (hk : k ∉ flat rs) (R : Ring o k t) : RingsP o (k + 1) (rs ++ [(k, t)]) := by
  have e1 : flat [(k, t)] = k :: t := by
    rw [flat_cons]
    show k :: (t ++ []) = _
    rw [List.append_nil]
  refine ⟨fun c hc => ?_, ?_, fun j hj => ?_, fun _ => ?_, fun z => by omega⟩
  · rcases List.mem_append.mp hc with hc | hc
    · exact h.rg c hc
    · rw [List.mem_singleton.mp hc]
      exact R
  · rw [flat_app, e1]
    refine List.nodup_append.mpr ⟨h.nd, R.nd, fun a ha b hb e => ?_⟩
    subst e
    exact hk (fw_end h.closed R.fp a hb ha)
  · rw [flat_app, e1]
    by_cases e : j = k
    · exact List.mem_append_right _ (e ▸ .head _)
    · exact List.mem_append_left _ (h.all j (by omega))
  · by_cases e : k = 0
    · rw [h.z e, e]
      exact ⟨t, [], rfl⟩
    · obtain ⟨d, r, e2⟩ := h.fst (by omega)
      rw [e2]
      exact ⟨d, r ++ [(k, t)], rfl⟩
def rct (c : Nat × List Nat) : Nat := if 0 ∉ c.1 :: c.2 ∧ 1 < (c.1 :: c.2).length then 1 else 0
theorem Ring.moves {o : List Nat} {x : Nat} {d : List Nat} (R : Ring o x d) (hd : d ≠ []) : ∀ z, z ∈ x :: d → o[z]? ≠ some z := fun z hz e => by
  have s := fw_end (S := fun w => w = z) (fun a b h1 h2 => by
    subst h1
    rw [e] at h2
    cases h2
    rfl) R.fp z hz rfl
  have s : x = z := s
  subst s
  cases d with
  | nil => exact hd rfl
  | cons a c =>
    have h1 := R.fp.1
    rw [e] at h1
    cases h1
    exact (List.nodup_cons.mp R.nd).1 (.head _)
def away (o : List Nat) : List Nat := (List.range' 1 (o.length - 1)).filter fun k => decide (o[k]? ≠ some k)
theorem cnt_ring {o : List Nat} {x : Nat} {d : List Nat} (R : Ring o x d) : (d.countP fun k => decide (o[k]? ≠ some k)) = d.length ∧ ((x :: d).countP fun k => decide (o[k]? ≠ some k)) = if d = [] then 0 else d.length + 1 := by
  by_cases h : d = []
  · subst h
    have e : o[x]? = some x := R.fp
    refine ⟨rfl, ?_⟩
    rw [if_pos rfl, List.countP_cons, List.countP_nil]
    simp [e]
  · have m := R.moves h
    have h2 : (x :: d).countP (fun k => decide (o[k]? ≠ some k)) = (x :: d).length := List.countP_eq_length.mpr fun z hz => decide_eq_true (m z hz)
    have h3 : d.countP (fun k => decide (o[k]? ≠ some k)) = d.length := List.countP_eq_length.mpr fun z hz => decide_eq_true (m z (.tail _ hz))
    rw [if_neg h]
    exact ⟨h3, h2⟩
theorem cnt_flat {o : List Nat} : ∀ {rs : List (Nat × List Nat)}, (∀ c, c ∈ rs → Ring o c.1 c.2) → 0 ∉ flat rs → (flat rs).countP (fun k => decide (o[k]? ≠ some k)) + (rs.map rct).sum = (rs.map fun c => wtc c.2).sum
  | [], _, _ => rfl
  | (x, d) :: rs, h, h0 => by
    rw [flat_cons] at h0
    have ih := cnt_flat (rs := rs) (fun c hc => h c (.tail _ hc)) fun z => h0 (.tail _ (List.mem_append_right _ z))
    have c2 := (cnt_ring (x := x) (d := d) (h (x, d) (.head _))).2
    have n0 : 0 ∉ x :: d := fun z => h0 (by
      rw [← List.cons_append]
      exact List.mem_append_left _ z)
    rw [flat_cons, ← List.cons_append, List.countP_append, List.map_cons, List.map_cons, List.sum_cons, List.sum_cons, c2]
    have e : (if d = [] then 0 else d.length + 1) + rct (x, d) = wtc d := by
      unfold rct wtc
      by_cases hd : d = []
      · subst hd
        rw [if_pos rfl, if_pos rfl, if_neg (fun z => absurd z.2 (Nat.lt_irrefl 1))]
      · have := List.length_pos_iff.mpr hd
        rw [if_neg hd, if_neg hd, if_pos ⟨n0, by show 1 < d.length + 1; omega⟩]
    show _ + (flat rs).countP _ + (rct (x, d) + _) = wtc d + _
    omega
theorem rings_ok {o : List Nat} (H : Ord o) {rs : List (Nat × List Nat)} (h : RingsP o o.length rs) : (swapsFor o).length = (away o).length + (rs.map rct).sum := by
  have nd := H.nd
  have h0 : 0 < o.length := by
    obtain ⟨_, _, h, _⟩ := id H
    exact h
  obtain ⟨d, r, rfl⟩ := h.fst h0
  have lt : ∀ z, z ∈ flat ((0, d) :: r) → z < o.length := fun z hz => by
    obtain ⟨c, hc, hz⟩ := List.mem_flatMap.mp hz
    exact (h.rg c hc).lt z hz
  have pm : (flat ((0, d) :: r)).Perm (List.range o.length) := (List.perm_ext_iff_of_nodup h.nd List.nodup_range).mpr fun a => ⟨fun ha => List.mem_range.mpr (lt a ha), fun ha => h.all a (List.mem_range.mp ha)⟩
  have R0 := h.rg (0, d) (.head _)
  have fe : ∀ rs : List (Nat × List Nat), (flat (rs.map fun c => (c.1, c.2.reverse))).Perm (flat rs) := fun rs => by
    induction rs with
    | nil => exact List.Perm.refl _
    | cons c rs ih =>
      obtain ⟨x, e⟩ := c
      rw [List.map_cons, flat_cons, flat_cons]
      exact List.Perm.cons x ((List.reverse_perm e).append ih)
  have R : Rep o (List.range o.length) d.reverse (r.map fun c => (c.1, c.2.reverse)) := by
    refine ⟨List.length_range, ?_, fun c hc => ?_, ?_⟩
    · refine (path_fw (R0.lt 0 (.head _)) fun z hz => R0.lt z (.tail _ (List.mem_reverse.mp hz))).mpr ?_
      rw [List.reverse_reverse]
      exact R0.fp
    · obtain ⟨c', hc', rfl⟩ := List.mem_map.mp hc
      have Rc := h.rg c' (.tail _ hc')
      refine (path_fw (Rc.lt _ (.head _)) fun z hz => Rc.lt z (.tail _ (List.mem_reverse.mp hz))).mpr ?_
      show Fw o c'.1 c'.2.reverse.reverse c'.1
      rw [List.reverse_reverse]
      exact Rc.fp
    · refine List.Perm.trans ?_ pm
      rw [flat_cons]
      exact List.Perm.cons 0 ((List.reverse_perm d).append (fe r))
  obtain ⟨ks, g1, g2, _⟩ := rep_gr nd R rfl
  rw [gr_fun (swapsFor_ok H).1 g1, g2]
  have pn := h.nd
  rw [flat_cons] at pn
  have n0 := (List.nodup_cons.mp pn).1
  have e1 : ffc d.reverse (r.map fun c => (c.1, c.2.reverse)) = d.length + (r.map fun c => wtc c.2).sum := by
    unfold ffc
    rw [List.length_reverse, List.map_map]
    congr 2
    refine List.map_congr_left fun c _ => ?_
    show wtc c.2.reverse = wtc c.2
    unfold wtc
    rw [List.length_reverse]
    by_cases hc : c.2 = []
    · rw [hc]
      rfl
    · rw [if_neg hc, if_neg (fun z => hc (List.reverse_eq_nil_iff.mp z))]
  have pt : (d ++ flat r).Perm (List.range' 1 (o.length - 1)) := by
    obtain ⟨n, hn⟩ : ∃ n, o.length = n + 1 := ⟨o.length - 1, by omega⟩
    rw [flat_cons, hn, List.range_eq_range'] at pm
    rw [hn]
    exact List.Perm.cons_inv pm
  have e2 : (away o).length = d.length + (flat r).countP (fun k => decide (o[k]? ≠ some k)) := by
    unfold away
    rw [← List.countP_eq_length_filter, ← pt.countP_eq, List.countP_append, (cnt_ring R0).1]
  have e3 := cnt_flat (o := o) (rs := r) (fun c hc => h.rg c (.tail _ hc)) fun z => n0 (List.mem_append_right _ z)
  have e4 : rct (0, d) = 0 := by
    unfold rct
    rw [if_neg (fun z => z.1 (.head _))]
  rw [e1, e2, List.map_cons, List.sum_cons, e4]
  omega
theorem intsD_nL {xs : List Nat} : intsD (xs.map dN) = some (xs.map fun (n : Nat) => (n : Int)) := by
  induction xs with
  | nil => rfl
  | cons x xs ih =>
    show (intsD (xs.map dN)).map _ = _
    rw [ih]
    rfl
def kLsA (p : D × En) : Option (D × En) := (dLenSetA p.1).map fun d => (d, p.2)
theorem v_lenSetA {m : M} {ρ : En} : mLenSetA m ρ = (m ρ).bind kLsA := rfl
theorem lenSetA_of {o : List Nat} (hn : o.length ≤ 60) : dLenSetA (nL o) = some (.int (dstI (o.map fun (n : Nat) => (n : Int)) : Nat)) := by
  show (intsD (o.map dN)).bind (fun ns => if ns.length < 64 then some (PyData.int (dstI ns : Nat)) else none) = _
  rw [intsD_nL]
  show (if (o.map fun (n : Nat) => (n : Int)).length < 64 then _ else _) = _
  rw [if_pos (by rw [List.length_map]; omega)]
theorem int_nodup {o : List Nat} (nd : o.Nodup) : (o.map fun (n : Nat) => (n : Int)).Nodup := by
  unfold List.Nodup
  rw [List.pairwise_map]
  exact List.Pairwise.imp (fun h => by omega) nd
theorem lenSetA_ok {o : List Nat} (nd : o.Nodup) (hn : o.length ≤ 60) : dLenSetA (nL o) = some (dN o.length) := by
  rw [lenSetA_of hn, dst_nodup (int_nodup nd), List.length_map]
theorem lenSetA_again {o : List Nat} {z : Nat} (nd : o.Nodup) (hz : z ∈ o) (hn : o.length ≤ 50) : dLenSetA (nL (o ++ [z])) = some (dN o.length) := by
  rw [lenSetA_of (by rw [List.length_append, List.length_singleton]; omega), List.map_append]
  have := dst_again (int_nodup nd) (List.mem_map.mpr ⟨z, hz, rfl⟩)
  rw [List.length_map] at this
  show some (PyData.int ((dstI ((o.map fun (n : Nat) => (n : Int)) ++ [(z : Int)]) : Nat) : Int)) = _
  rw [this]
theorem look_order_ok {o : List Nat} (H : Ord o) (hn : o.length ≤ 9) : f_look_order [some (nL o)] = some (.none, [none]) := by
  have h0 : 0 < o.length := by
    obtain ⟨_, _, h0, _⟩ := H
    exact h0
  have lc := lcM_eq (u := dN) (ρ := [some (nL o), none]) (g := mgN 1) (e := mCall f_is_number [.fz, .fz, .fz] [] (maCons (mVar 1) (maCons (mC (.int 0)) (maCons (m2 (.fz) (.fz) (mOp [.fz] (maCons (mVar 0) maNil) dLenU) (mC (.int 1)) dSub) maNil)))) (vs := [1]) (F := fun _ => PyData.bool true) (xs := o) (by omega) fun x hx => by
    have hm : x < o.length := List.mem_range.mp (H.perm.mem_iff.mp hx)
    have e1 := is_number_i (i := (x : Int)) (a := 0) (b := (o.length : Int) - 1)
    rw [decide_eq_true (show (0 : Int) ≤ (x : Int) by omega), decide_eq_true (show (x : Int) ≤ (o.length : Int) - 1 by omega)] at e1
    refine ⟨[some (nL o), some (dN x)], rfl, [some (nL o), some (dN x)], ?_, rfl⟩
    exists len_nL (xs := o), e1
  have al : dAll [.list (o.map fun _ => PyData.bool true)] = some (.bool true) := by
    have := dAll_f (f := fun _ : Nat => true) (xs := o)
    rw [this]
    simp
  have ls : kLsA (nL o, [some (nL o), none]) = some (dN o.length, [some (nL o), none]) := by
    unfold kLsA
    rw [lenSetA_ok H.nd (by omega)]
    rfl
  have c1 : decide ((1 : Int) ≤ (o.length : Int)) = true := decide_eq_true (by omega)
  have c2 : decide ((o.length : Int) ≤ (9 : Int)) = true := decide_eq_true (by omega)
  unfold f_look_order m_look_order
  exists show dIs "list" [nL o] = some (.bool true) from rfl, len_nL (xs := o), c1, c2, lc, al, v_lenSetA, ls, ne_same (i := (o.length : Int))
theorem fewest_ok {o : List Nat} (H : Ord o) (hn : o.length ≤ 9) : f_fewest_swaps [some (nL o)] = some (nL ((swapsFor o).map (· + 1)), [none]) := by
  unfold f_fewest_swaps m_fewest_swaps
  exists look_order_ok H hn, swaps_for_ok H (by omega)
theorem callX1 {f : MX} {d : D} {c : Str} {o : En} (h : f [some d] = some (.inr c, [none])) : mCallX f [.fz] [] (maCons (mVar 0) maNil) [some d] = some (.inr c, [some d]) := by
  show ((f [some d]).map _) = _
  rw [h]
  rfl
theorem fx_one {w d : D} {c : Str} (h : fx_look_order [some d] = some (.inr c, [none])) : fx__law_one [some w, some d] = some (.inr c, [none, none]) := by
  have e1 : fx_fewest_swaps [some d] = some (.inr c, [none]) := by
    have e : mx_fewest_swaps [some d] = some (.inr c, [some d]) := by
      show (((mCallX fx_look_order [.fz] [] (maCons (mVar 0) maNil)) [some d]).map _).bind _ = _
      rw [callX1 (o := []) h]
      rfl
    show (mx_fewest_swaps [some d]).bind _ = _
    rw [e]
    rfl
  have e2 : mCallX fx_fewest_swaps [.fz] [] (maCons (mVar 1) maNil) [some w, some d] = some (.inr c, [some w, some d]) := by
    show ((fx_fewest_swaps [some d]).map _) = _
    rw [e1]
    rfl
  have e : mx__law_one [some w, some d] = some (.inr c, [some w, some d]) := by
    show ((mCallX fx_fewest_swaps [.fz] [] (maCons (mVar 1) maNil)) [some w, some d]).map _ = _
    rw [e2]
    rfl
  show (mx__law_one [some w, some d]).bind _ = _
  rw [e]
  rfl
def refD : D := .tuple [.str "refused", .int 4]
theorem told_bad {w d : D} (h : fx_look_order [some d] = some (.inr "BadOrder", [none])) : f__law_told [some w, some d] = some (refD, [none, none]) := by
  show (fx__law_one [some w, some d]).bind _ = _
  rw [fx_one h]
  rfl
theorem refused_ok : f__law_refused [some (.str "order")] = some (refD, [none]) := by kernel_rfl
theorem bad1 : fx_look_order [some .none] = some (.inr "BadOrder", [none]) := by kernel_rfl
theorem bad2 {ds : List D} : fx_look_order [some (.tuple ds)] = some (.inr "BadOrder", [none]) := by kernel_rfl
theorem bad3 : fx_look_order [some (.list [])] = some (.inr "BadOrder", [none]) := by kernel_rfl
theorem bad5 : fx_look_order [some (.list [.int 1])] = some (.inr "BadOrder", [none]) := by kernel_rfl
theorem bad6 : fx_look_order [some (.list [.bool true])] = some (.inr "BadOrder", [none]) := by kernel_rfl
theorem bad7 : fx_look_order [some (.list [.int 0, .int 2])] = some (.inr "BadOrder", [none]) := by kernel_rfl
theorem bad8 : fx_look_order [some (nL (List.range 10))] = some (.inr "BadOrder", [none]) := by kernel_rfl
theorem bad9 : fx_look_order [some (.list [.str "0"])] = some (.inr "BadOrder", [none]) := by kernel_rfl
theorem bad10 : fx_look_order [some (.dict [])] = some (.inr "BadOrder", [none]) := by kernel_rfl
theorem ite_raise {t : MT} {c : Str} {b : MSX} {ρ ρ1 : En} (h : t ρ = some (true, ρ1)) : mIteX t (mRaiseX c) b ρ = some (.inr c, ρ1) := by
  show (t ρ).bind _ = _
  rw [h]
  rfl
theorem ite_skip {t : MT} {a : MSX} {ρ ρ1 : En} (h : t ρ = some (false, ρ1)) : mIteX t a (xS mSkip) ρ = some (.inl .nx, ρ1) := by
  show (t ρ).bind _ = _
  rw [h]
  rfl
theorem bad4 {o : List Nat} (H : Ord o) (hn : o.length ≤ 9) : fx_look_order [some (nL (o ++ [0]))] = some (.inr "BadOrder", [none]) := by
  have h0 : 0 < o.length := by
    obtain ⟨_, _, h0, _⟩ := H
    exact h0
  obtain ⟨O, hO⟩ : ∃ O, o ++ [0] = O := ⟨_, rfl⟩
  have hl : O.length = o.length + 1 := by rw [← hO, List.length_append]; rfl
  have c1 : decide ((1 : Int) ≤ (O.length : Int)) = true := decide_eq_true (by omega)
  have main : mx_look_order [some (nL O), none] = some (.inr "BadOrder", [some (nL O), none]) := by
    by_cases h9 : O.length ≤ 9
    · have c2 : decide ((O.length : Int) ≤ (9 : Int)) = true := decide_eq_true (by omega)
      have t1 : (mOr (mNot (mTr (m1 (.fz) (mVar 0) (dIs "list")))) (mNot (mTr (mChain (fun i j => decide (i ≤ j)) (fun i j => decide (i ≤ j)) (mC (.int 1)) (mOp [.fz] (maCons (mVar 0) maNil) dLenU) (mC (.int 9)))))) [some (nL O), none] = some (false, [some (nL O), none]) := by
        exists show dIs "list" [nL O] = some (.bool true) from rfl, len_nL (xs := O), c1, c2
      have lc := lcM_eq (u := dN) (ρ := [some (nL O), none]) (g := mgN 1) (e := mCall f_is_number [.fz, .fz, .fz] [] (maCons (mVar 1) (maCons (mC (.int 0)) (maCons (m2 (.fz) (.fz) (mOp [.fz] (maCons (mVar 0) maNil) dLenU) (mC (.int 1)) dSub) maNil)))) (vs := [1]) (F := fun _ => PyData.bool true) (xs := O) (by omega) fun x hx => by
        have hm : x < O.length := by
          rw [← hO] at hx
          rcases List.mem_append.mp hx with hx | hx
          · have := List.mem_range.mp (H.perm.mem_iff.mp hx)
            omega
          · rw [List.mem_singleton.mp hx]
            omega
        have e1 := is_number_i (i := (x : Int)) (a := 0) (b := (O.length : Int) - 1)
        rw [decide_eq_true (show (0 : Int) ≤ (x : Int) by omega), decide_eq_true (show (x : Int) ≤ (O.length : Int) - 1 by omega)] at e1
        refine ⟨[some (nL O), some (dN x)], rfl, [some (nL O), some (dN x)], ?_, rfl⟩
        exists len_nL (xs := O), e1
      have al : dAll [.list (O.map fun _ => PyData.bool true)] = some (.bool true) := by
        have := dAll_f (f := fun _ : Nat => true) (xs := O)
        rw [this]
        simp
      have h00 : 0 ∈ o := H.perm.mem_iff.mpr (List.mem_range.mpr h0)
      have ls : kLsA (nL O, [some (nL O), none]) = some (dN o.length, [some (nL O), none]) := by
        unfold kLsA
        rw [← hO, lenSetA_again H.nd h00 (by omega)]
        rfl
      have ne : dNeU [dN o.length, dN O.length] = some (.bool true) := by
        rw [dNe_of (n := 0) (m := 0) Eq0.int Eq0.int, eqv_N]
        rw [show (decide (o.length = O.length)) = false from decide_eq_false (by omega)]
        rfl
      have t2 : (mOr (mNot (mTr (mOp [.ow] (maCons (mLc (mItU (mVar 0)) (mgN 1) mYes (mCall f_is_number [.fz, .fz, .fz] [] (maCons (mVar 1) (maCons (mC (.int 0)) (maCons (m2 (.fz) (.fz) (mOp [.fz] (maCons (mVar 0) maNil) dLenU) (mC (.int 1)) dSub) maNil)))) [1]) maNil) dAll))) (mTr (m2 (.fz) (.fz) (mLenSetA (mVar 0)) (mOp [.fz] (maCons (mVar 0) maNil) dLenU) dNeU))) [some (nL O), none] = some (true, [some (nL O), none]) := by
        exists len_nL (xs := O), lc, al, v_lenSetA, ls, ne
      show (mIteX _ _ _ _).bind _ = _
      rw [ite_skip t1]
      exact ite_raise t2
    · have c2 : decide ((O.length : Int) ≤ (9 : Int)) = false := decide_eq_false (by omega)
      have t1 : (mOr (mNot (mTr (m1 (.fz) (mVar 0) (dIs "list")))) (mNot (mTr (mChain (fun i j => decide (i ≤ j)) (fun i j => decide (i ≤ j)) (mC (.int 1)) (mOp [.fz] (maCons (mVar 0) maNil) dLenU) (mC (.int 9)))))) [some (nL O), none] = some (true, [some (nL O), none]) := by
        exists show dIs "list" [nL O] = some (.bool true) from rfl, len_nL (xs := O), c1, c2
      show (mIteX _ _ _ _).bind _ = _
      rw [ite_raise t1]
      rfl
  rw [hO]
  show (mx_look_order [some (nL O), none]).bind _ = _
  rw [main]
  rfl
theorem whole_ok {n : Nat} : f__law_whole [some (dN n)] = some (.bool true, [none]) := rfl
theorem wholes_ok {xs : List Nat} (h : xs.length ≤ 100000) : f__law_wholes [some (nL xs)] = some (.bool true, [none]) := by
  have fl := lcF_eq (τ := Nat) (u := dN) (F := fun _ => none) (g := mgN 1) (vs := [1]) (ρ := [some (nL xs), none]) (xs := xs) (t := (mNot (mTr (mCall f__law_whole [.fz] [] (maCons (mVar 1) maNil))))) (e := mVar 1) (by omega) fun x hx => by
    refine ⟨[some (nL xs), some (dN x)], rfl, false, [some (nL xs), some (dN x)], ?_, ?_⟩
    · exists whole_ok
    · rw [if_neg Bool.false_ne_true]
      exact ⟨rfl, rfl⟩
  rw [show xs.filterMap (fun _ => (none : Option D)) = [] by induction xs <;> simp] at fl
  have il : dIs "list" [nL xs] = some (.bool true) := rfl
  have e0 : dEqU [.list [], .list []] = some (.bool true) := rfl
  unfold f__law_wholes m__law_wholes
  exists il, v_itU, fl, e0
theorem forL_go {g : MG} {b : MS} {x : D} {ys : List D} {ρ ρ1 ρ2 : En} (h1 : g x ρ = some ρ1) (h2 : b ρ1 = some (.nx, ρ2)) : mForL (x :: ys) g b ρ = mForL ys g b ρ2 := by
  show (g x ρ).bind _ = _
  rw [h1]
  show (b ρ1).bind _ = _
  rw [h2]
  rfl
theorem moved_go {od td : D} {o3 o4 : Option D} : ∀ {ks xs : List Nat}, (∀ k, k ∈ ks → 1 ≤ k ∧ k < xs.length) → ∃ o3' o4', mForL (ks.map fun k => dN (k + 1)) (mgN 3) (mSeq (mSet 4 (m2 (.br 2) (.fz) (mBr 2) (mC (.int 0)) dIxU)) (mSeq (mPutU 2 (mC (.int 0)) (m2 (.br 2) (.fz) (mBr 2) (m2 (.fz) (.fz) (mVar 3) (mC (.int 1)) dSub) dIxU)) (mPutU 2 (m2 (.fz) (.fz) (mVar 3) (mC (.int 1)) dSub) (mVar 4)))) [some od, some td, some (nL xs), o3, o4] = some (.nx, [some od, some td, some (nL (swps ks xs)), o3', o4'])
  | [], xs, _ => ⟨o3, o4, rfl⟩
  | k :: ks, xs, h => by
    have a := h k (.head _)
    have h0 : 0 < xs.length := by omega
    have e0 := List.getElem?_eq_getElem h0
    have ek := List.getElem?_eq_getElem a.2
    have f0 : dIxU [nL xs, .int 0] = some (dN xs[0]) := ix_nL e0
    have fk : dIxU [nL xs, dN k] = some (dN xs[k]) := ix_nL ek
    have es : ((k + 1 : Nat) : Int) - 1 = (k : Int) := by omega
    have p1 : putU (nL xs) (.int 0) (dN xs[k]) = some (nL (xs.set 0 xs[k])) := put_list (u := dN) (i := 0) h0
    have p2 : putU (nL (xs.set 0 xs[k])) (dN k) (dN xs[0]) = some (nL ((xs.set 0 xs[k]).set k xs[0])) := put_list (u := dN) (by rw [List.length_set]; exact a.2)
    rw [← swp_of e0 ek] at p2
    obtain ⟨o3', o4', ih⟩ := moved_go (od := od) (td := td) (o3 := some (dN (k + 1))) (o4 := some (dN xs[0])) (ks := ks) (xs := swp k xs) fun j hj => by
      rw [swp_len]
      exact h j (.tail _ hj)
    refine ⟨o3', o4', ?_⟩
    rw [List.map_cons]
    refine (forL_go (ρ1 := [some od, some td, some (nL xs), some (dN (k + 1)), o4]) (ρ2 := [some od, some td, some (nL (swp k xs)), some (dN (k + 1)), some (dN xs[0])]) rfl ?_).trans ih
    exists f0, v_putU, es, fk, p1, p2
theorem lmoved_ok {o ks : List Nat} (hn : o.length ≤ 100) (h : ∀ k, k ∈ ks → 1 ≤ k ∧ k < o.length) : f__law_moved [some (nL o), some (nL (ks.map (· + 1)))] = some (nL (swps ks (List.range o.length)), [none, none]) := by
  obtain ⟨o3, o4, e⟩ := moved_go (od := nL o) (td := nL (ks.map (· + 1))) (o3 := none) (o4 := none) (ks := ks) (xs := List.range o.length) fun k hk => by
    rw [List.length_range]
    exact h k hk
  have em : (ks.map (· + 1)).map dN = ks.map fun k => dN (k + 1) := by
    rw [List.map_map]
    rfl
  have it : kItU (nL (ks.map (· + 1)), [some (nL o), some (nL (ks.map (· + 1))), some (nL (List.range o.length)), none, none]) = some (ks.map fun k => dN (k + 1), [some (nL o), some (nL (ks.map (· + 1))), some (nL (List.range o.length)), none, none]) := by
    rw [← em]
    rfl
  unfold f__law_moved m__law_moved
  exists len_nL (xs := o), v_lrngK, kLr_n (n := o.length) (by omega), v_itU, it, e
theorem sq_go {a b : MS} {ρ ρ1 : En} {r : Option (Fl × En)} (h : a ρ = some (.nx, ρ1)) (h2 : b ρ1 = r) : mSeq a b ρ = r := by
  rw [v_seq, h]
  exact h2
def kRng2 (p : List D × En) : Option (List D × En) := match p.1 with
  | [.int i, .int j] => if -(2 ^ 62) ≤ i ∧ i < 2 ^ 62 ∧ -(2 ^ 62) ≤ j ∧ j < 2 ^ 62 then some (dRng i (j - i).toNat, p.2) else none
  | _ => none
theorem v_rng2 {ma : MA} {ρ : En} : mRng2 ma ρ = (ma ρ).bind kRng2 := rfl
theorem rng2_ok {n : Nat} (h : n ≤ 1000) (h1 : 1 ≤ n) {ρ : En} : kRng2 ([.int 1, dN n], ρ) = some ((List.range' 1 (n - 1)).map dN, ρ) := by
  unfold kRng2
  dsimp only
  rw [p62, if_pos ⟨by omega, by omega, by omega, by omega⟩, show ((n : Int) - 1).toNat = n - 1 by omega]
  unfold dRng
  rw [List.range'_eq_map_range, List.map_map]
  congr 2
abbrev E13 (ns : List Int) (t : D) (o2 o3 o4 o5 o6 o7 o8 o9 o10 : Option D) : En := [some (dL ns), some t, o2, o3, o4, o5, o6, o7, o8, o9, o10, none, none]
structure OrP (ns : List Int) (i : Nat) (ρ : En) : Prop where
  ex : ∃ t xs o3, ρ = E13 ns t (some (nL xs)) o3 none none none none none none none ∧ Town ns (1 + i) t ∧ xs.Perm (List.range i)
def ordB : MS := (mDrop (mMut 2 "list" (maCons (mCall f__law_draw [.fz, .br 1, .fz] [] (maCons (mVar 0) (maCons (mBr 1) (maCons (m2 (.fz) (.fz) (mOp [.br 2] (maCons (mBr 2) maNil) dLenU) (mC (.int 1)) dAddU) maNil)))) (maCons (mVar 3) maNil)) dInsert))
theorem ord_go {ns : List Int} {i : Nat} {ρ : En} (hi : i < 100) (hP : OrP ns i ρ) : ∃ ρ1 ρ2, mgN 3 (dN i) ρ = some ρ1 ∧ ordB ρ1 = some (.nx, ρ2) ∧ OrP ns (i + 1) ρ2 := by
  obtain ⟨t, xs, o3, rfl, T, p⟩ := hP
  have lx := p.length_eq
  rw [List.length_range] at lx
  obtain ⟨r, t', e, r1, T'⟩ := draw_i ((xs.length : Int) + 1) T (by omega) ⟨by omega, by omega⟩
  have ins : dInsert (nL xs) [dN r, dN i] = some (.none, nL (xs.take r ++ [i] ++ xs.drop r)) := by
    show (if (xs.map dN).length < 1000000 ∧ (0 : Int) ≤ (r : Int) ∧ (r : Int) < 2 ^ 63 then some (PyData.none, PyData.list ((xs.map dN).take (r : Int).toNat ++ [dN i] ++ (xs.map dN).drop (r : Int).toNat)) else none) = _
    rw [if_pos ⟨by rw [List.length_map]; omega, by omega, by omega⟩, Int.toNat_natCast, ← List.map_take, ← List.map_drop, ← List.map_singleton (f := dN), ← List.map_append, ← List.map_append]
  refine ⟨E13 ns t (some (nL xs)) (some (dN i)) none none none none none none none, E13 ns t' (some (nL (xs.take r ++ [i] ++ xs.drop r))) (some (dN i)) none none none none none none none, rfl, ?_, ⟨t', _, _, rfl, T'.up (by omega), ?_⟩⟩
  · unfold ordB
    exists len_nL (xs := xs), e, ins
  · rw [List.range_succ]
    refine List.Perm.trans ?_ (List.Perm.append_right [i] p)
    refine List.Perm.trans ?_ (List.perm_append_comm (l₁ := [i]) (l₂ := xs))
    rw [List.append_assoc]
    refine List.Perm.trans (List.perm_middle (l₁ := xs.take r) (l₂ := xs.drop r) (a := i)) ?_
    rw [List.take_append_drop]
    exact List.Perm.refl _
theorem nats_nL : ∀ o : List Nat, natsOf (o.map dN) = some o
  | [] => rfl
  | x :: o => by
    show (if (0 : Int) ≤ (x : Int) then (natsOf (o.map dN)).map ((x : Int).toNat :: ·) else none) = _
    rw [if_pos (by omega), nats_nL o]
    rfl
theorem layersD_ok {o : List Nat} (H : Ord o) (hn : o.length < 6) : f__law_layers [some (nL o)] = some (dN (swapsFor o).length, [none]) := by
  obtain ⟨_, _, _, hl⟩ := swapsFor_ok H
  have h0 : 0 < o.length := by
    obtain ⟨_, _, h, _⟩ := id H
    exact h
  have e : lyOf o = some (swapsFor o).length := by
    unfold lyOf
    rw [if_pos ⟨h0, hn⟩]
    exact layers_ok H (by omega)
  have e2 : lyM [some (.list (o.map dN)), none, none, none, none, none, none, none] = some (.rt (dN (swapsFor o).length), [some (.list (o.map dN)), none, none, none, none, none, none, none]) := by
    show (((natsOf (o.map dN)).bind lyOf).map _) = _
    rw [nats_nL]
    show (lyOf o).map _ = _
    rw [e]
    rfl
  show (lyM [some (.list (o.map dN)), none, none, none, none, none, none, none]).bind _ = _
  rw [e2]
  rfl
abbrev WC : MT := (mTr (m2 (.fz) (.fz) (m2 (.fz) (.fz) (mVar 2) (m2 (.br 8) (.fz) (mBr 8) (m1 (.fz) (mC (.int 1)) dNeg) dIxU) dIxU) (mVar 3) dNeU))
abbrev WB : MS := (mDrop (mMut 8 "list" (maCons (m2 (.fz) (.fz) (mVar 2) (m2 (.br 8) (.fz) (mBr 8) (m1 (.fz) (mC (.int 1)) dNeg) dIxU) dIxU) maNil) dAppend))
theorem last_nL {l : Nat} {r : List Nat} : dIxU [nL (r ++ [l]), .int (-1)] = some (dN l) := by
  show dIxU [.list ((r ++ [l]).map dN), .int (-1)] = _
  rw [dIxU_l, List.map_append]
  exact atI_last
theorem neN {a b : Nat} : dNeU [dN a, dN b] = some (.bool (!decide (a = b))) := by
  rw [dNe_of (n := 0) (m := 0) Eq0.int Eq0.int, eqv_N]
theorem grow_nL {r : List Nat} {z : Nat} (h : r.length ≤ 1000) : dAppend (nL r) [dN z] = some (.none, nL (r ++ [z])) := by
  have := dAppend_eq (ds := r.map dN) (d := dN z) (by rw [List.length_map]; omega)
  show dAppend (.list (r.map dN)) [dN z] = some (.none, .list ((r ++ [z]).map dN))
  rw [this, List.map_append]
  rfl
theorem nd_len {l : List Nat} {n : Nat} (nd : l.Nodup) (h : ∀ z, z ∈ l → z < n) : l.length ≤ n := by
  have p : l.Perm ((List.range n).filter fun z => decide (z ∈ l)) := (List.perm_ext_iff_of_nodup nd (List.Pairwise.sublist List.filter_sublist List.nodup_range)).mpr fun a => by
    rw [List.mem_filter, List.mem_range]
    exact ⟨fun ha => ⟨h a ha, decide_eq_true ha⟩, fun ha => of_decide_eq_true ha.2⟩
  rw [p.length_eq]
  have := List.length_filter_le (fun z => decide (z ∈ l)) (List.range n)
  rwa [List.length_range] at this
theorem ring_go {ns : List Int} {t : D} {o : List Nat} {k : Nat} {o4 o5 o6 o7 o9 o10 : Option D} : ∀ {v r : List Nat} {l : Nat}, Fw o l v k → (∀ z, z ∈ v → z ≠ k) → r.length + 1 + v.length ≤ 1000 →
    whN WC WB (v.length + 1) (E13 ns t (some (nL o)) (some (dN k)) o4 o5 o6 o7 (some (nL (r ++ [l]))) o9 o10) = some (.nx, E13 ns t (some (nL o)) (some (dN k)) o4 o5 o6 o7 (some (nL (r ++ l :: v))) o9 o10)
  | [], r, l, h, _, hr => by
    have h : o[l]? = some k := h
    have f1 := ix_nL h
    have ne := neN (a := k) (b := k)
    rw [decide_eq_true rfl] at ne
    refine wh_end ?_
    unfold WC
    exists last_nL (l := l) (r := r), f1, ne
  | z :: v, r, l, h, hz, hr => by
    rw [List.length_cons] at hr
    have f1 := ix_nL h.1
    have ne := neN (a := z) (b := k)
    rw [decide_eq_false (hz z (.head _))] at ne
    have ap := grow_nL (r := r ++ [l]) (z := z) (by rw [List.length_append, List.length_singleton]; omega)
    have ih := ring_go (ns := ns) (t := t) (o4 := o4) (o5 := o5) (o6 := o6) (o7 := o7) (o9 := o9) (o10 := o10) (v := v) (r := r ++ [l]) (l := z) h.2 (fun w hw => hz w (.tail _ hw)) (by rw [List.length_append, List.length_singleton]; omega)
    rw [show r ++ [l] ++ z :: v = r ++ l :: z :: v by simp] at ih
    refine wh_step (ρ1 := E13 ns t (some (nL o)) (some (dN k)) o4 o5 o6 o7 (some (nL (r ++ [l]))) o9 o10) (ρ2 := E13 ns t (some (nL o)) (some (dN k)) o4 o5 o6 o7 (some (nL (r ++ [l] ++ [z]))) o9 o10) ?_ ?_ ih
    · unfold WC
      exists last_nL (l := l) (r := r), f1, ne
    · unfold WB
      exists last_nL (l := l) (r := r), f1, ap
structure RgP (ns : List Int) (t : D) (o : List Nat) (g td : D) (i : Nat) (ρ : En) : Prop where
  ex : ∃ rs o3 o8, ρ = E13 ns t (some (nL o)) o3 (some g) (some td) (some (dN (rs.map rct).sum)) (some (nL (flat rs))) o8 none none ∧ RingsP o i rs
def rgB : MS := (mIte (mTr (m2 (.fz) (.fz) (mVar 3) (mVar 7) dNinU)) (mSeq (mSet 8 (mLst (maCons (mVar 3) maNil))) (mSeq (mWhile (mTr (m2 (.fz) (.fz) (m2 (.fz) (.fz) (mVar 2) (m2 (.br 8) (.fz) (mBr 8) (m1 (.fz) (mC (.int 1)) dNeg) dIxU) dIxU) (mVar 3) dNeU)) (mDrop (mMut 8 "list" (maCons (m2 (.fz) (.fz) (mVar 2) (m2 (.br 8) (.fz) (mBr 8) (m1 (.fz) (mC (.int 1)) dNeg) dIxU) dIxU) maNil) dAppend))) (mSeq (mSet 7 (m2 (.fz) (.br 8) (mVar 7) (mBr 8) dAddU)) (mSet 6 (m2 (.fz) (.fz) (mVar 6) (mOp [.fz] (maCons (mAndV (m2 (.fz) (.br 8) (mC (.int 0)) (mBr 8) dNinU) (m2 (.fz) (.fz) (mOp [.br 8] (maCons (mBr 8) maNil) dLenU) (mC (.int 1)) dGt)) maNil) dInt) dAddU))))) mSkip)
theorem rg_go {ns : List Int} {t : D} {o : List Nat} {g td : D} {i : Nat} {ρ : En} (H : Ord o) (hn : o.length ≤ 100) (hi : i < o.length) (hP : RgP ns t o g td i ρ) : ∃ ρ1 ρ2, mgN 3 (dN i) ρ = some ρ1 ∧ rgB ρ1 = some (.nx, ρ2) ∧ RgP ns t o g td (i + 1) ρ2 := by
  obtain ⟨rs, o3, o8, rfl, R⟩ := hP
  have ni : dNinU [dN i, nL (flat rs)] = some (.bool (!decide (i ∈ flat rs))) := nin_nsU
  by_cases hm : i ∈ flat rs
  · rw [decide_eq_true hm] at ni
    refine ⟨_, E13 ns t (some (nL o)) (some (dN i)) (some g) (some td) (some (dN (rs.map rct).sum)) (some (nL (flat rs))) o8 none none, rfl, ?_, ⟨rs, some (dN i), o8, rfl, R.skip hm⟩⟩
    unfold rgB
    show mIte _ _ _ _ = _
    exists ni
  · rw [decide_eq_false hm] at ni
    obtain ⟨u, G⟩ := ring_of H hi
    have ln : (i :: u).length ≤ o.length := nd_len G.nd G.lt
    rw [List.length_cons] at ln
    have w := ring_go (ns := ns) (t := t) (o4 := some g) (o5 := some td) (o6 := some (dN (rs.map rct).sum)) (o7 := some (nL (flat rs))) (o9 := none) (o10 := none) (v := u) (r := []) (l := i) G.fp (fun z hz e => (List.nodup_cons.mp G.nd).1 (e ▸ hz)) (by rw [List.length_nil]; omega)
    have w := mWhile_of (show u.length + 1 ≤ whFuel by unfold whFuel; omega) w
    have w : mWhile WC WB [some (dL ns), some t, some (nL o), some (dN i), some g, some td, some (dN (rs.map rct).sum), some (nL (flat rs)), some (.list [dN i]), none, none, none, none] = some (.nx, [some (dL ns), some t, some (nL o), some (dN i), some g, some td, some (dN (rs.map rct).sum), some (nL (flat rs)), some (nL (i :: u)), none, none, none, none]) := w
    have R2 := R.more hm G
    have fl : (flat (rs ++ [(i, u)])).length ≤ o.length := nd_len R2.nd fun z hz => by
      obtain ⟨c, hc, hz⟩ := List.mem_flatMap.mp hz
      exact (R2.rg c hc).lt z hz
    have fe : flat (rs ++ [(i, u)]) = flat rs ++ (i :: u) := by
      rw [flat_app, flat_cons]
      show flat rs ++ i :: (u ++ []) = _
      rw [List.append_nil]
    rw [fe, List.length_append, List.length_cons] at fl
    have ca : dAddU [nL (flat rs), nL (i :: u)] = some (nL (flat rs ++ (i :: u))) := cat_list (u := dN) (by rw [List.length_cons]; omega)
    have n0 : dNinU [.int 0, nL (i :: u)] = some (.bool (!decide (0 ∈ i :: u))) := nin_nsU (m := 0)
    have se : (rs.map rct).sum + rct (i, u) = ((rs ++ [(i, u)]).map rct).sum := by
      rw [List.map_append, List.sum_append]
      show _ = (rs.map rct).sum + (rct (i, u) + 0)
      omega
    refine ⟨_, E13 ns t (some (nL o)) (some (dN i)) (some g) (some td) (some (dN ((rs ++ [(i, u)]).map rct).sum)) (some (nL (flat (rs ++ [(i, u)])))) (some (nL (i :: u))) none none, rfl, ?_, ⟨rs ++ [(i, u)], some (dN i), some (nL (i :: u)), rfl, R2⟩⟩
    rw [fe, ← se]
    have le := len_nL (xs := i :: u)
    have ib : ∀ b : Bool, dInt [.bool b] = some (.int (if b then 1 else 0)) := fun b => by cases b <;> rfl
    unfold rgB
    show mIte _ _ _ _ = _
    by_cases h0 : 0 ∈ i :: u
    · rw [decide_eq_true h0] at n0
      have r0 : rct (i, u) = 0 := by
        unfold rct
        rw [if_neg (fun z => z.1 h0)]
      rw [r0]
      exists ni, w, ca, n0, ib
      simp
    · rw [decide_eq_false h0] at n0
      by_cases h1 : 1 < (i :: u).length
      · have r0 : rct (i, u) = 1 := by
          unfold rct
          rw [if_pos ⟨h0, h1⟩]
        have d1 : decide (((i :: u).length : Int) > 1) = true := decide_eq_true (by omega)
        rw [r0]
        exists ni, w, ca, n0, ib, le, d1
        rw [List.length_cons] at h1
        simp [show 1 < (u.length : Int) + 1 by omega]
      · have r0 : rct (i, u) = 0 := by
          unfold rct
          rw [if_neg (fun z => h1 z.2)]
        have d1 : decide (((i :: u).length : Int) > 1) = false := decide_eq_false (by omega)
        rw [r0]
        exists ni, w, ca, n0, ib, le, d1
        rw [List.length_cons] at h1
        simp [show ¬ 1 < (u.length : Int) + 1 by omega]
abbrev badsOf (o : List Nat) : List D := [.none, .tuple (o.map dN), .list [], nL (o ++ [0]), .list [.int 1], .list [.bool true], .list [.int 0, .int 2], nL (List.range 10), .list [.str "0"], .dict []]
theorem bads_told {o : List Nat} (H : Ord o) (hn : o.length ≤ 9) {w : D} : ∀ d, d ∈ badsOf o → f__law_told [some w, some d] = some (refD, [none, none]) := fun d hd => by
  simp only [List.mem_cons, List.not_mem_nil, or_false] at hd
  rcases hd with rfl | rfl | rfl | rfl | rfl | rfl | rfl | rfl | rfl | rfl
  · exact told_bad bad1
  · exact told_bad bad2
  · exact told_bad bad3
  · exact told_bad (bad4 H hn)
  · exact told_bad bad5
  · exact told_bad bad6
  · exact told_bad bad7
  · exact told_bad bad8
  · exact told_bad bad9
  · exact told_bad bad10
theorem v_rep {m mb : M} {ρ : En} : mRep m mb ρ = (m ρ).bind fun p => (mb p.2).bind fun q => (dRep [p.1, q.1]).bind fun d => some (d, q.2) := by
  unfold mRep
  simp only [Option.map_eq_bind]
  rfl
theorem away_lc {ns : List Int} {t1 : D} {o : List Nat} {o3b o8 : Option D} {g td a b : D} (hn : o.length ≤ 9) : ((mLcL ((List.range' 1 (o.length - 1)).map dN) (mgN 3) (mTr (m2 (.fz) (.fz) (m2 (.fz) (.fz) (mVar 2) (mVar 3) dIxU) (mVar 3) dNeU)) (mVar 3) [3] [] (E13 ns t1 (some (nL o)) o3b (some g) (some td) (some a) (some b) o8 none none)).bind fun q => some (PyData.list q.1, restE (E13 ns t1 (some (nL o)) o3b (some g) (some td) (some a) (some b) o8 none none) [3] q.2)) = some (nL (away o), E13 ns t1 (some (nL o)) o3b (some g) (some td) (some a) (some b) o8 none none) := by
  have lc := lcF_eq (τ := Nat) (u := dN) (ρ := E13 ns t1 (some (nL o)) o3b (some g) (some td) (some a) (some b) o8 none none) (g := mgN 3) (t := (mTr (m2 (.fz) (.fz) (m2 (.fz) (.fz) (mVar 2) (mVar 3) dIxU) (mVar 3) dNeU))) (e := mVar 3) (vs := [3])
    (F := fun i => if decide (o[i]? ≠ some i) = true then some (dN i) else none) (xs := List.range' 1 (o.length - 1)) (by rw [List.length_range']; omega) fun i hi => by
      rw [List.mem_range'_1] at hi
      have hi2 : i < o.length := by omega
      have e1 := List.getElem?_eq_getElem hi2
      have f1 := ix_nL e1
      have ne : dNeU [dN o[i], dN i] = some (.bool (decide (o[i]? ≠ some i))) := by
        rw [neN, e1]
        congr 2
        by_cases h : o[i] = i
        · rw [h]; simp
        · simp [h]
      refine ⟨E13 ns t1 (some (nL o)) (some (dN i)) (some g) (some td) (some a) (some b) o8 none none, rfl, decide (o[i]? ≠ some i), E13 ns t1 (some (nL o)) (some (dN i)) (some g) (some td) (some a) (some b) o8 none none, ?_, ?_⟩
      · exists f1, ne
      · cases hd : decide (o[i]? ≠ some i) with
        | true =>
          rw [if_pos rfl]
          refine ⟨dN i, _, rfl, by rw [if_pos rfl], rfl⟩
        | false =>
          rw [if_neg Bool.false_ne_true]
          exact ⟨by rw [if_neg Bool.false_ne_true], rfl⟩
  refine lc.trans ?_
  congr 2
  show PyData.list _ = PyData.list _
  congr 1
  unfold away
  generalize List.range' 1 (o.length - 1) = xs
  induction xs with
  | nil => rfl
  | cons x xs ih =>
    rw [List.filterMap_cons, List.filter_cons]
    cases decide (o[x]? ≠ some x) with
    | true =>
      show dN x :: _ = (x :: _).map dN
      rw [List.map_cons, ← ih]
      all_goals rfl
    | false =>
      show List.filterMap _ xs = _
      rw [ih]
      all_goals rfl
theorem law_in {ns : List Int} {t1 : D} {o : List Nat} {o3 : Option D} (H : Ord o) (hn : o.length ≤ 9) : ∃ ρ', (mSeq (mIte (mOr (mNot (mTr (mCall f__law_wholes [.fz] [] (maCons (mVar 5) maNil)))) (mOr (mTr (m2 (.ow) (.fz) (mCall f__law_moved [.fz, .fz] [] (maCons (mVar 2) (maCons (mVar 5) maNil))) (mVar 2) dNeU)) (mTr (m2 (.fz) (.fz) (mVar 4) (mVar 2) dNeU)))) (mRet (mC (.bool false))) mSkip) (mSeq (mIte (mTr (m2 (.ow) (.ow) (mLc (mItU (mVar 5)) (mgN 11) (mOr (mTr (m2 (.fz) (.fz) (mVar 11) (mC (.int 2)) dLt)) (mTr (m2 (.fz) (.fz) (mVar 11) (mOp [.fz] (maCons (mVar 2) maNil) dLenU) dGt))) (mVar 11) [11]) (mLst maNil) dNeU)) (mRet (mC (.bool false))) mSkip) (mSeq (mSet 6 (mC (.int 0))) (mSeq (mSet 7 (mLst maNil)) (mSeq (mFor (mRng1 (maCons (mOp [.fz] (maCons (mVar 2) maNil) dLenU) maNil)) (mgN 3) (mIte (mTr (m2 (.fz) (.fz) (mVar 3) (mVar 7) dNinU)) (mSeq (mSet 8 (mLst (maCons (mVar 3) maNil))) (mSeq (mWhile (mTr (m2 (.fz) (.fz) (m2 (.fz) (.fz) (mVar 2) (m2 (.br 8) (.fz) (mBr 8) (m1 (.fz) (mC (.int 1)) dNeg) dIxU) dIxU) (mVar 3) dNeU)) (mDrop (mMut 8 "list" (maCons (m2 (.fz) (.fz) (mVar 2) (m2 (.br 8) (.fz) (mBr 8) (m1 (.fz) (mC (.int 1)) dNeg) dIxU) dIxU) maNil) dAppend))) (mSeq (mSet 7 (m2 (.fz) (.br 8) (mVar 7) (mBr 8) dAddU)) (mSet 6 (m2 (.fz) (.fz) (mVar 6) (mOp [.fz] (maCons (mAndV (m2 (.fz) (.br 8) (mC (.int 0)) (mBr 8) dNinU) (m2 (.fz) (.fz) (mOp [.br 8] (maCons (mBr 8) maNil) dLenU) (mC (.int 1)) dGt)) maNil) dInt) dAddU))))) mSkip)) (mSeq (mSet 9 (mLc (mRng2 (maCons (mC (.int 1)) (maCons (mOp [.fz] (maCons (mVar 2) maNil) dLenU) maNil))) (mgN 3) (mTr (m2 (.fz) (.fz) (m2 (.fz) (.fz) (mVar 2) (mVar 3) dIxU) (mVar 3) dNeU)) (mVar 3) [3])) (mSeq (mIte (mTr (m2 (.fz) (.fz) (mOp [.fz] (maCons (mVar 5) maNil) dLenU) (m2 (.fz) (.fz) (mOp [.fz] (maCons (mVar 9) maNil) dLenU) (mVar 6) dAddU) dNeU)) (mRet (mC (.bool false))) mSkip) (mSeq (mIte (mAnd (mTr (m2 (.fz) (.fz) (mOp [.fz] (maCons (mVar 2) maNil) dLenU) (mC (.int 6)) dLt)) (mTr (m2 (.fz) (.fz) (mCall f__law_layers [.fz] [] (maCons (mVar 2) maNil)) (mOp [.fz] (maCons (mVar 5) maNil) dLenU) dNeU))) (mRet (mC (.bool false))) mSkip) (mSeq (mSet 10 (mLst (maCons (mC .none) (maCons (mOp [.fz] (maCons (mVar 2) maNil) dTuple) (maCons (mLst maNil) (maCons (m2 (.fz) (.ow) (mVar 2) (mLst (maCons (mC (.int 0)) maNil)) dAddU) (maCons (mLst (maCons (mC (.int 1)) maNil)) (maCons (mLst (maCons (mC (.bool true)) maNil)) (maCons (mLst (maCons (mC (.int 0)) (maCons (mC (.int 2)) maNil))) (maCons (mLrng1 (mC (.int 10))) (maCons (mLst (maCons (mC (.str "0")) maNil)) (maCons mDnew maNil)))))))))))) (mRet (m2 (.ow) (.ow) (mLc (mItU (mVar 10)) (mgN 12) mYes (mCall f__law_told [.fz, .fz] [] (maCons (mC (.int 0)) (maCons (mVar 12) maNil))) [12]) (mRep (mLst (maCons (mCall f__law_refused [.fz] [] (maCons (mC (.str "order")) maNil)) maNil)) (mC (.int 10))) dEqU))))))))))) (E13 ns t1 (some (nL o)) o3 (some (nL o)) (some (nL ((swapsFor o).map (· + 1)))) none none none none none) = some (.rt (.bool true), ρ') := by
  have h0 : 0 < o.length := by
    obtain ⟨_, _, h, _⟩ := id H
    exact h
  obtain ⟨_, sk, sw, sl⟩ := swapsFor_ok H
  have w := wholes_ok (xs := (swapsFor o).map (· + 1)) (by rw [List.length_map]; omega)
  have mv := lmoved_ok (o := o) (ks := swapsFor o) (by omega) sk
  rw [sw] at mv
  have neo : dNeU [nL o, nL o] = some (.bool false) := by
    rw [ne_nL, decide_eq_true rfl]
    rfl
  have z1 : (mIte (mOr (mNot (mTr (mCall f__law_wholes [.fz] [] (maCons (mVar 5) maNil)))) (mOr (mTr (m2 (.ow) (.fz) (mCall f__law_moved [.fz, .fz] [] (maCons (mVar 2) (maCons (mVar 5) maNil))) (mVar 2) dNeU)) (mTr (m2 (.fz) (.fz) (mVar 4) (mVar 2) dNeU)))) (mRet (mC (.bool false))) mSkip) (E13 ns t1 (some (nL o)) o3 (some (nL o)) (some (nL ((swapsFor o).map (· + 1)))) none none none none none) = some (.nx, (E13 ns t1 (some (nL o)) o3 (some (nL o)) (some (nL ((swapsFor o).map (· + 1)))) none none none none none)) := by
    exists w, mv, neo
  have fl := lcF_eq (τ := Nat) (u := dN) (F := fun _ => none) (g := mgN 11) (vs := [11]) (ρ := (E13 ns t1 (some (nL o)) o3 (some (nL o)) (some (nL ((swapsFor o).map (· + 1)))) none none none none none)) (xs := (swapsFor o).map (· + 1)) (t := (mOr (mTr (m2 (.fz) (.fz) (mVar 11) (mC (.int 2)) dLt)) (mTr (m2 (.fz) (.fz) (mVar 11) (mOp [.fz] (maCons (mVar 2) maNil) dLenU) dGt)))) (e := mVar 11) (by rw [List.length_map]; omega) fun x hx => by
    obtain ⟨k, hk, rfl⟩ := List.mem_map.mp hx
    have a := sk k hk
    have c1 : decide (((k + 1 : Nat) : Int) < 2) = false := decide_eq_false (by omega)
    have c2 : decide (((k + 1 : Nat) : Int) > (o.length : Int)) = false := decide_eq_false (by omega)
    refine ⟨[some (dL ns), some t1, some (nL o), o3, some (nL o), some (nL ((swapsFor o).map (· + 1))), none, none, none, none, none, some (dN (k + 1)), none], rfl, false, [some (dL ns), some t1, some (nL o), o3, some (nL o), some (nL ((swapsFor o).map (· + 1))), none, none, none, none, none, some (dN (k + 1)), none], ?_, ?_⟩
    · exists len_nL (xs := o), c1, c2
    · rw [if_neg Bool.false_ne_true]
      exact ⟨rfl, rfl⟩
  rw [show ((swapsFor o).map (· + 1)).filterMap (fun _ => (none : Option D)) = [] by generalize (swapsFor o).map (· + 1) = zz; induction zz <;> simp] at fl
  have ne0 : dNeU [.list [], .list []] = some (.bool false) := rfl
  have z2 : (mIte (mTr (m2 (.ow) (.ow) (mLc (mItU (mVar 5)) (mgN 11) (mOr (mTr (m2 (.fz) (.fz) (mVar 11) (mC (.int 2)) dLt)) (mTr (m2 (.fz) (.fz) (mVar 11) (mOp [.fz] (maCons (mVar 2) maNil) dLenU) dGt))) (mVar 11) [11]) (mLst maNil) dNeU)) (mRet (mC (.bool false))) mSkip) (E13 ns t1 (some (nL o)) o3 (some (nL o)) (some (nL ((swapsFor o).map (· + 1)))) none none none none none) = some (.nx, (E13 ns t1 (some (nL o)) o3 (some (nL o)) (some (nL ((swapsFor o).map (· + 1)))) none none none none none)) := by
    exists v_itU, fl, ne0
  have z3 : (mSet 6 (mC (.int 0))) (E13 ns t1 (some (nL o)) o3 (some (nL o)) (some (nL ((swapsFor o).map (· + 1)))) none none none none none) = some (.nx, (E13 ns t1 (some (nL o)) o3 (some (nL o)) (some (nL ((swapsFor o).map (· + 1)))) (some (.int 0)) none none none none)) := rfl
  have z4 : (mSet 7 (mLst maNil)) (E13 ns t1 (some (nL o)) o3 (some (nL o)) (some (nL ((swapsFor o).map (· + 1)))) (some (.int 0)) none none none none) = some (.nx, (E13 ns t1 (some (nL o)) o3 (some (nL o)) (some (nL ((swapsFor o).map (· + 1)))) (some (.int 0)) (some (.list [])) none none none)) := rfl
  obtain ⟨ρ1, l1, ⟨rs, o3b, o8, rfl, R⟩⟩ := for_inv (j := o.length) (P := fun i ρ => RgP ns t1 o (nL o) (nL ((swapsFor o).map (· + 1))) i ρ) (g := mgN 3) (b := rgB) (fun i ρ hi hP => rg_go H (by omega) hi hP) (ρ := (E13 ns t1 (some (nL o)) o3 (some (nL o)) (some (nL ((swapsFor o).map (· + 1)))) (some (.int 0)) (some (.list [])) none none none)) ⟨[], o3, none, rfl, RingsP.zero⟩
  have z5 : (mFor (mRng1 (maCons (mOp [.fz] (maCons (mVar 2) maNil) dLenU) maNil)) (mgN 3) (mIte (mTr (m2 (.fz) (.fz) (mVar 3) (mVar 7) dNinU)) (mSeq (mSet 8 (mLst (maCons (mVar 3) maNil))) (mSeq (mWhile (mTr (m2 (.fz) (.fz) (m2 (.fz) (.fz) (mVar 2) (m2 (.br 8) (.fz) (mBr 8) (m1 (.fz) (mC (.int 1)) dNeg) dIxU) dIxU) (mVar 3) dNeU)) (mDrop (mMut 8 "list" (maCons (m2 (.fz) (.fz) (mVar 2) (m2 (.br 8) (.fz) (mBr 8) (m1 (.fz) (mC (.int 1)) dNeg) dIxU) dIxU) maNil) dAppend))) (mSeq (mSet 7 (m2 (.fz) (.br 8) (mVar 7) (mBr 8) dAddU)) (mSet 6 (m2 (.fz) (.fz) (mVar 6) (mOp [.fz] (maCons (mAndV (m2 (.fz) (.br 8) (mC (.int 0)) (mBr 8) dNinU) (m2 (.fz) (.fz) (mOp [.br 8] (maCons (mBr 8) maNil) dLenU) (mC (.int 1)) dGt)) maNil) dInt) dAddU))))) mSkip)) (E13 ns t1 (some (nL o)) o3 (some (nL o)) (some (nL ((swapsFor o).map (· + 1)))) (some (.int 0)) (some (.list [])) none none none) = some (.nx, (E13 ns t1 (some (nL o)) o3b (some (nL o)) (some (nL ((swapsFor o).map (· + 1)))) (some (dN (rs.map rct).sum)) (some (nL (flat rs))) o8 none none)) := by
    have l1 : mForL (dRng 0 o.length) (mgN 3) (mIte (mTr (m2 (.fz) (.fz) (mVar 3) (mVar 7) dNinU)) (mSeq (mSet 8 (mLst (maCons (mVar 3) maNil))) (mSeq (mWhile (mTr (m2 (.fz) (.fz) (m2 (.fz) (.fz) (mVar 2) (m2 (.br 8) (.fz) (mBr 8) (m1 (.fz) (mC (.int 1)) dNeg) dIxU) dIxU) (mVar 3) dNeU)) (mDrop (mMut 8 "list" (maCons (m2 (.fz) (.fz) (mVar 2) (m2 (.br 8) (.fz) (mBr 8) (m1 (.fz) (mC (.int 1)) dNeg) dIxU) dIxU) maNil) dAppend))) (mSeq (mSet 7 (m2 (.fz) (.br 8) (mVar 7) (mBr 8) dAddU)) (mSet 6 (m2 (.fz) (.fz) (mVar 6) (mOp [.fz] (maCons (mAndV (m2 (.fz) (.br 8) (mC (.int 0)) (mBr 8) dNinU) (m2 (.fz) (.fz) (mOp [.br 8] (maCons (mBr 8) maNil) dLenU) (mC (.int 1)) dGt)) maNil) dInt) dAddU))))) mSkip) (E13 ns t1 (some (nL o)) o3 (some (nL o)) (some (nL ((swapsFor o).map (· + 1)))) (some (.int 0)) (some (.list [])) none none none) = some (.nx, (E13 ns t1 (some (nL o)) o3b (some (nL o)) (some (nL ((swapsFor o).map (· + 1)))) (some (dN (rs.map rct).sum)) (some (nL (flat rs))) o8 none none)) := l1
    exists len_nL (xs := o), rng_ok (show o.length < 1000000 by omega), l1
  have z6 : (mSet 9 (mLc (mRng2 (maCons (mC (.int 1)) (maCons (mOp [.fz] (maCons (mVar 2) maNil) dLenU) maNil))) (mgN 3) (mTr (m2 (.fz) (.fz) (m2 (.fz) (.fz) (mVar 2) (mVar 3) dIxU) (mVar 3) dNeU)) (mVar 3) [3])) (E13 ns t1 (some (nL o)) o3b (some (nL o)) (some (nL ((swapsFor o).map (· + 1)))) (some (dN (rs.map rct).sum)) (some (nL (flat rs))) o8 none none) = some (.nx, (E13 ns t1 (some (nL o)) o3b (some (nL o)) (some (nL ((swapsFor o).map (· + 1)))) (some (dN (rs.map rct).sum)) (some (nL (flat rs))) o8 (some (nL (away o))) none)) := by
    have al := away_lc (ns := ns) (t1 := t1) (o := o) (o3b := o3b) (o8 := o8) (g := nL o) (td := nL ((swapsFor o).map (· + 1))) (a := dN (rs.map rct).sum) (b := nL (flat rs)) hn
    exists len_nL (xs := o), v_rng2, rng2_ok (n := o.length) (by omega) h0, al
  have cnt := rings_ok H R
  have lt : dLenU [nL ((swapsFor o).map (· + 1))] = some (dN (swapsFor o).length) := by
    rw [len_nL, List.length_map]
  have nes : dNeU [dN (swapsFor o).length, .int (((away o).length : Int) + ((rs.map rct).sum : Int))] = some (.bool false) := by
    have := neN (a := (swapsFor o).length) (b := (away o).length + (rs.map rct).sum)
    rw [decide_eq_true cnt] at this
    rw [show (((away o).length : Int) + ((rs.map rct).sum : Int)) = (((away o).length + (rs.map rct).sum : Nat) : Int) by omega]
    exact this
  have z7 : (mIte (mTr (m2 (.fz) (.fz) (mOp [.fz] (maCons (mVar 5) maNil) dLenU) (m2 (.fz) (.fz) (mOp [.fz] (maCons (mVar 9) maNil) dLenU) (mVar 6) dAddU) dNeU)) (mRet (mC (.bool false))) mSkip) (E13 ns t1 (some (nL o)) o3b (some (nL o)) (some (nL ((swapsFor o).map (· + 1)))) (some (dN (rs.map rct).sum)) (some (nL (flat rs))) o8 (some (nL (away o))) none) = some (.nx, (E13 ns t1 (some (nL o)) o3b (some (nL o)) (some (nL ((swapsFor o).map (· + 1)))) (some (dN (rs.map rct).sum)) (some (nL (flat rs))) o8 (some (nL (away o))) none)) := by
    exists lt, len_nL (xs := away o), nes
  have ne1 : dNeU [dN (swapsFor o).length, dN (swapsFor o).length] = some (.bool false) := by
    rw [neN, decide_eq_true rfl]
    rfl
  have z8 : (mIte (mAnd (mTr (m2 (.fz) (.fz) (mOp [.fz] (maCons (mVar 2) maNil) dLenU) (mC (.int 6)) dLt)) (mTr (m2 (.fz) (.fz) (mCall f__law_layers [.fz] [] (maCons (mVar 2) maNil)) (mOp [.fz] (maCons (mVar 5) maNil) dLenU) dNeU))) (mRet (mC (.bool false))) mSkip) (E13 ns t1 (some (nL o)) o3b (some (nL o)) (some (nL ((swapsFor o).map (· + 1)))) (some (dN (rs.map rct).sum)) (some (nL (flat rs))) o8 (some (nL (away o))) none) = some (.nx, (E13 ns t1 (some (nL o)) o3b (some (nL o)) (some (nL ((swapsFor o).map (· + 1)))) (some (dN (rs.map rct).sum)) (some (nL (flat rs))) o8 (some (nL (away o))) none)) := by
    by_cases h6 : o.length < 6
    · have c6 : decide ((o.length : Int) < 6) = true := decide_eq_true (by omega)
      have ly := layersD_ok H h6
      exists len_nL (xs := o), c6, ly, lt, ne1
    · have c6 : decide ((o.length : Int) < 6) = false := decide_eq_false (by omega)
      exists len_nL (xs := o), c6
  have tu : dTuple [nL o] = some (.tuple (o.map dN)) := rfl
  have ca : dAddU [nL o, .list [.int 0]] = some (nL (o ++ [0])) := cat_list (u := dN) (xs := o) (ys := [0]) (by rw [List.length_singleton]; omega)
  have l10 : ∀ {ρ : En}, mLrng1 (mC (.int 10)) ρ = some (nL (List.range 10), ρ) := fun {ρ} => by
    rw [v_lrngK]
    exact kLr_n (n := 10) (by decide)
  have z9 : (mSet 10 (mLst (maCons (mC .none) (maCons (mOp [.fz] (maCons (mVar 2) maNil) dTuple) (maCons (mLst maNil) (maCons (m2 (.fz) (.ow) (mVar 2) (mLst (maCons (mC (.int 0)) maNil)) dAddU) (maCons (mLst (maCons (mC (.int 1)) maNil)) (maCons (mLst (maCons (mC (.bool true)) maNil)) (maCons (mLst (maCons (mC (.int 0)) (maCons (mC (.int 2)) maNil))) (maCons (mLrng1 (mC (.int 10))) (maCons (mLst (maCons (mC (.str "0")) maNil)) (maCons mDnew maNil)))))))))))) (E13 ns t1 (some (nL o)) o3b (some (nL o)) (some (nL ((swapsFor o).map (· + 1)))) (some (dN (rs.map rct).sum)) (some (nL (flat rs))) o8 (some (nL (away o))) none) = some (.nx, (E13 ns t1 (some (nL o)) o3b (some (nL o)) (some (nL ((swapsFor o).map (· + 1)))) (some (dN (rs.map rct).sum)) (some (nL (flat rs))) o8 (some (nL (away o))) (some (.list (badsOf o))))) := by
    exists tu, ca, l10
    rfl
  have bt := bads_told H hn (w := .int 0)
  have lc15 := lcM_eq (u := id) (F := fun _ => refD) (g := mgN 12) (e := (mCall f__law_told [.fz, .fz] [] (maCons (mC (.int 0)) (maCons (mVar 12) maNil)))) (vs := [12]) (ρ := (E13 ns t1 (some (nL o)) o3b (some (nL o)) (some (nL ((swapsFor o).map (· + 1)))) (some (dN (rs.map rct).sum)) (some (nL (flat rs))) o8 (some (nL (away o))) (some (.list (badsOf o))))) (xs := badsOf o) (by show 10 ≤ 1000000; decide) fun x hx => by
    have b := bt x hx
    refine ⟨_, rfl, [some (dL ns), some t1, some (nL o), o3b, some (nL o), some (nL ((swapsFor o).map (· + 1))), some (dN (rs.map rct).sum), some (nL (flat rs)), o8, some (nL (away o)), some (.list (badsOf o)), none, some x], ?_, rfl⟩
    show (mCall f__law_told [.fz, .fz] [] (maCons (mC (.int 0)) (maCons (mVar 12) maNil))) [some (dL ns), some t1, some (nL o), o3b, some (nL o), some (nL ((swapsFor o).map (· + 1))), some (dN (rs.map rct).sum), some (nL (flat rs)), o8, some (nL (away o)), some (.list (badsOf o)), none, some x] = _
    exists b
  rw [List.map_id] at lc15
  have rep : dRep [.list [refD], .int 10] = some (.list (List.replicate 10 refD)) := by kernel_rfl
  have eqq : dEqU [.list [refD, refD, refD, refD, refD, refD, refD, refD, refD, refD], .list [refD, refD, refD, refD, refD, refD, refD, refD, refD, refD]] = some (.bool true) := by kernel_rfl
  have z10 : (mRet (m2 (.ow) (.ow) (mLc (mItU (mVar 10)) (mgN 12) mYes (mCall f__law_told [.fz, .fz] [] (maCons (mC (.int 0)) (maCons (mVar 12) maNil))) [12]) (mRep (mLst (maCons (mCall f__law_refused [.fz] [] (maCons (mC (.str "order")) maNil)) maNil)) (mC (.int 10))) dEqU)) (E13 ns t1 (some (nL o)) o3b (some (nL o)) (some (nL ((swapsFor o).map (· + 1)))) (some (dN (rs.map rct).sum)) (some (nL (flat rs))) o8 (some (nL (away o))) (some (.list (badsOf o)))) = some (.rt (.bool true), (E13 ns t1 (some (nL o)) o3b (some (nL o)) (some (nL ((swapsFor o).map (· + 1)))) (some (dN (rs.map rct).sum)) (some (nL (flat rs))) o8 (some (nL (away o))) (some (.list (badsOf o))))) := by
    exists v_itU, show kItU (PyData.list (badsOf o), (E13 ns t1 (some (nL o)) o3b (some (nL o)) (some (nL ((swapsFor o).map (· + 1)))) (some (dN (rs.map rct).sum)) (some (nL (flat rs))) o8 (some (nL (away o))) (some (.list (badsOf o))))) = some (badsOf o, (E13 ns t1 (some (nL o)) o3b (some (nL o)) (some (nL ((swapsFor o).map (· + 1)))) (some (dN (rs.map rct).sum)) (some (nL (flat rs))) o8 (some (nL (away o))) (some (.list (badsOf o))))) from rfl, lc15, v_rep, refused_ok, rep, eqq
  exact ⟨_, sq_go z1 (sq_go z2 (sq_go z3 (sq_go z4 (sq_go z5 (sq_go z6 (sq_go z7 (sq_go z8 (sq_go z9 z10))))))))⟩
theorem law_true (ns : List Int) (hn : ns.length ≤ 63) : ∃ o, f_law [some (dL ns)] = some (.bool true, o) := by
  obtain ⟨t0, e0, T0⟩ := town_eq hn
  obtain ⟨w, t1, e1, w1, T1⟩ := draw_i 9 T0 (by omega) ⟨by decide, by decide⟩
  obtain ⟨ρ1, l1, ⟨t2, o, o3, rfl, T2, p⟩⟩ := for_inv (j := 1 + w) (P := fun i ρ => OrP ns i ρ) (g := mgN 3) (b := ordB) (fun i ρ hi hP => ord_go (by omega) hP) (ρ := E13 ns t1 (some (nL [])) none none none none none none none none) ⟨t1, [], none, rfl, T1.up (by omega), List.Perm.refl _⟩
  have H := perm_ord p (by omega)
  have lo := p.length_eq
  rw [List.length_range] at lo
  have l1 : mForL (dRng 0 (1 + w)) (mgN 3) (mDrop (mMut 2 "list" (maCons (mCall f__law_draw [.fz, .br 1, .fz] [] (maCons (mVar 0) (maCons (mBr 1) (maCons (m2 (.fz) (.fz) (mOp [.br 2] (maCons (mBr 2) maNil) dLenU) (mC (.int 1)) dAddU) maNil)))) (maCons (mVar 3) maNil)) dInsert)) [some (dL ns), some t1, some (.list []), none, none, none, none, none, none, none, none, none, none] = some (.nx, [some (dL ns), some t2, some (nL o), o3, none, none, none, none, none, none, none, none, none]) := l1
  have em : (1 : Int) + (w : Int) = ((1 + w : Nat) : Int) := by omega
  have z1 : (mSet 1 (mCall f__law_town [.fz] [] (maCons (mVar 0) maNil))) [some (dL ns), none, none, none, none, none, none, none, none, none, none, none, none] = some (.nx, [some (dL ns), some t0, none, none, none, none, none, none, none, none, none, none, none]) := by
    exists e0
  have z2 : (mSet 2 (mLst maNil)) [some (dL ns), some t0, none, none, none, none, none, none, none, none, none, none, none] = some (.nx, [some (dL ns), some t0, some (.list []), none, none, none, none, none, none, none, none, none, none]) := rfl
  have z3 : (mFor (mRng1 (maCons (m2 (.fz) (.fz) (mC (.int 1)) (mCall f__law_draw [.fz, .br 1, .fz] [] (maCons (mVar 0) (maCons (mBr 1) (maCons (mC (.int 9)) maNil)))) dAddU) maNil)) (mgN 3) (mDrop (mMut 2 "list" (maCons (mCall f__law_draw [.fz, .br 1, .fz] [] (maCons (mVar 0) (maCons (mBr 1) (maCons (m2 (.fz) (.fz) (mOp [.br 2] (maCons (mBr 2) maNil) dLenU) (mC (.int 1)) dAddU) maNil)))) (maCons (mVar 3) maNil)) dInsert))) [some (dL ns), some t0, some (.list []), none, none, none, none, none, none, none, none, none, none] = some (.nx, [some (dL ns), some t2, some (nL o), o3, none, none, none, none, none, none, none, none, none]) := by
    exists e1, em, rng_ok (show 1 + w < 1000000 by omega), l1
  have li : dList [nL o] = some (nL o) := rfl
  have z4 : (mSet 4 (mOp [.br 2] (maCons (mBr 2) maNil) dList)) [some (dL ns), some t2, some (nL o), o3, none, none, none, none, none, none, none, none, none] = some (.nx, [some (dL ns), some t2, some (nL o), o3, some (nL o), none, none, none, none, none, none, none, none]) := by
    exists li
  have z5 : (mSet 5 (mCall f_fewest_swaps [.fz] [] (maCons (mVar 4) maNil))) [some (dL ns), some t2, some (nL o), o3, some (nL o), none, none, none, none, none, none, none, none] = some (.nx, [some (dL ns), some t2, some (nL o), o3, some (nL o), some (nL ((swapsFor o).map (· + 1))), none, none, none, none, none, none, none]) := by
    exists fewest_ok H (by omega)
  obtain ⟨ρ2, z6⟩ := law_in (ns := ns) (t1 := t2) (o3 := o3) H (by omega)
  have z6 : (mFz 2 (mSeq (mIte (mOr (mNot (mTr (mCall f__law_wholes [.fz] [] (maCons (mVar 5) maNil)))) (mOr (mTr (m2 (.ow) (.fz) (mCall f__law_moved [.fz, .fz] [] (maCons (mVar 2) (maCons (mVar 5) maNil))) (mVar 2) dNeU)) (mTr (m2 (.fz) (.fz) (mVar 4) (mVar 2) dNeU)))) (mRet (mC (.bool false))) mSkip) (mSeq (mIte (mTr (m2 (.ow) (.ow) (mLc (mItU (mVar 5)) (mgN 11) (mOr (mTr (m2 (.fz) (.fz) (mVar 11) (mC (.int 2)) dLt)) (mTr (m2 (.fz) (.fz) (mVar 11) (mOp [.fz] (maCons (mVar 2) maNil) dLenU) dGt))) (mVar 11) [11]) (mLst maNil) dNeU)) (mRet (mC (.bool false))) mSkip) (mSeq (mSet 6 (mC (.int 0))) (mSeq (mSet 7 (mLst maNil)) (mSeq (mFor (mRng1 (maCons (mOp [.fz] (maCons (mVar 2) maNil) dLenU) maNil)) (mgN 3) (mIte (mTr (m2 (.fz) (.fz) (mVar 3) (mVar 7) dNinU)) (mSeq (mSet 8 (mLst (maCons (mVar 3) maNil))) (mSeq (mWhile (mTr (m2 (.fz) (.fz) (m2 (.fz) (.fz) (mVar 2) (m2 (.br 8) (.fz) (mBr 8) (m1 (.fz) (mC (.int 1)) dNeg) dIxU) dIxU) (mVar 3) dNeU)) (mDrop (mMut 8 "list" (maCons (m2 (.fz) (.fz) (mVar 2) (m2 (.br 8) (.fz) (mBr 8) (m1 (.fz) (mC (.int 1)) dNeg) dIxU) dIxU) maNil) dAppend))) (mSeq (mSet 7 (m2 (.fz) (.br 8) (mVar 7) (mBr 8) dAddU)) (mSet 6 (m2 (.fz) (.fz) (mVar 6) (mOp [.fz] (maCons (mAndV (m2 (.fz) (.br 8) (mC (.int 0)) (mBr 8) dNinU) (m2 (.fz) (.fz) (mOp [.br 8] (maCons (mBr 8) maNil) dLenU) (mC (.int 1)) dGt)) maNil) dInt) dAddU))))) mSkip)) (mSeq (mSet 9 (mLc (mRng2 (maCons (mC (.int 1)) (maCons (mOp [.fz] (maCons (mVar 2) maNil) dLenU) maNil))) (mgN 3) (mTr (m2 (.fz) (.fz) (m2 (.fz) (.fz) (mVar 2) (mVar 3) dIxU) (mVar 3) dNeU)) (mVar 3) [3])) (mSeq (mIte (mTr (m2 (.fz) (.fz) (mOp [.fz] (maCons (mVar 5) maNil) dLenU) (m2 (.fz) (.fz) (mOp [.fz] (maCons (mVar 9) maNil) dLenU) (mVar 6) dAddU) dNeU)) (mRet (mC (.bool false))) mSkip) (mSeq (mIte (mAnd (mTr (m2 (.fz) (.fz) (mOp [.fz] (maCons (mVar 2) maNil) dLenU) (mC (.int 6)) dLt)) (mTr (m2 (.fz) (.fz) (mCall f__law_layers [.fz] [] (maCons (mVar 2) maNil)) (mOp [.fz] (maCons (mVar 5) maNil) dLenU) dNeU))) (mRet (mC (.bool false))) mSkip) (mSeq (mSet 10 (mLst (maCons (mC .none) (maCons (mOp [.fz] (maCons (mVar 2) maNil) dTuple) (maCons (mLst maNil) (maCons (m2 (.fz) (.ow) (mVar 2) (mLst (maCons (mC (.int 0)) maNil)) dAddU) (maCons (mLst (maCons (mC (.int 1)) maNil)) (maCons (mLst (maCons (mC (.bool true)) maNil)) (maCons (mLst (maCons (mC (.int 0)) (maCons (mC (.int 2)) maNil))) (maCons (mLrng1 (mC (.int 10))) (maCons (mLst (maCons (mC (.str "0")) maNil)) (maCons mDnew maNil)))))))))))) (mRet (m2 (.ow) (.ow) (mLc (mItU (mVar 10)) (mgN 12) mYes (mCall f__law_told [.fz, .fz] [] (maCons (mC (.int 0)) (maCons (mVar 12) maNil))) [12]) (mRep (mLst (maCons (mCall f__law_refused [.fz] [] (maCons (mC (.str "order")) maNil)) maNil)) (mC (.int 10))) dEqU)))))))))))) [some (dL ns), some t2, some (nL o), o3, some (nL o), some (nL ((swapsFor o).map (· + 1))), none, none, none, none, none, none, none] = some (.rt (.bool true), ρ2.set 2 none) := by
    rw [v_fz, z6]
    rfl
  have z : m_law [some (dL ns), none, none, none, none, none, none, none, none, none, none, none, none] = some (.rt (.bool true), ρ2.set 2 none) := sq_go z1 (sq_go z2 (sq_go z3 (sq_go z4 (sq_go z5 z6))))
  refine ⟨outE [.fz] (ρ2.set 2 none), ?_⟩
  show (m_law [some (dL ns), none, none, none, none, none, none, none, none, none, none, none, none]).bind _ = _
  rw [z]
  rfl
theorem glo_of {K : PySem.W.Frag} {h : Heap} {mg : Str → Option Value} {x n q : Str} {params : Arguments} {body : List Stmt} {scope : Scope} {dvs : List V} {kws : List (Str × V)} {fd : FuncData} (X : K.In h) (G : h.Ns mainGlobals mg) (z : noF0 K = true) (F : FunD K n q params body scope dvs kws (He.fAd K (x, none)) fd) : mg x = some (.ref (He.ga K x)) := by
  obtain ⟨oc, od, dV, kV, doc, pm, an, cd, ct, osl, _, lk, _⟩ := F.ex
  have e : PySem.W.nsIn K mainGlobals x = some (some (.ref (He.ga K x))) := by
    have lk : K.lookup (He.ga K x) = _ := lk
    unfold He.ga at lk ⊢
    split at lk
    · rename_i a ha
      rw [ha]
    · unfold noF0 at z
      rw [lk] at z
      cases z
  exact PySem.W.mg_of X G e
theorem facts {P : Program} {w : World} {K : PySem.W.Frag} {h : Heap} {mg : Str → Option Value} {f : Addr} (X : K.In h) (G : h.Ns mainGlobals mg) (hfa : mg ("law" : Str) = some (.ref f)) (cx : He.SaysX fa fn ts [] exHB w h K) :
    ∃ fd : FuncData, (∀ (s : Shared) (v : Value), BindsTo s fd ⟨[v], []⟩ [("_law_script", v)]) ∧ ∀ base : Heap, K.In base → base.Ns mainGlobals mg → FnG P w K mg base CX0 6 f fd ["_law_script"] (spF K [.fz] f_law .fz) := by
  have c := cx.t.d
  have B : Bt mg := ⟨fun x hx => by
    obtain ⟨i, hi⟩ := List.mem_iff_getElem?.mp hx
    refine He.free_ok X G (c.fact i (f := .free x) ?_)
    unfold fa
    rw [List.getElem?_append_left (by rw [List.length_map]; exact (List.getElem?_eq_some_iff.mp hi).1), List.getElem?_map, hi]
    rfl⟩
  have hx0 : exHB K = true := cx.more
  unfold exHB at hx0
  have hx1 := (He.ba hx0).2
  have hx2 := (He.ba hx1).2
  have hx3 := (He.ba hx2).2
  have hx4 := (He.ba hx3).2
  have hx5 := (He.ba hx4).2
  have XM := exmB_ok X G (He.ba hx1).1
  have XW : ∀ c, c ∈ xcL → ExW K mg c := fun c hc => exwB_ok (List.all_eq_true.mp (He.ba hx2).1 c hc)
  have z0 := (He.ba hx4).1
  have C : Ct K w mg := ⟨exkB_ok X G (He.ba hx0).1⟩
  obtain ⟨fd_is_number, F_is_number⟩ := c.def_ 0 (d := d_is_number) rfl
  have M_is_number := glo_of (x := "is_number") X G z0 F_is_number
  obtain ⟨fd_look_order, F_look_order⟩ := c.def_ 1 (d := d_look_order) rfl
  have M_look_order := glo_of (x := "look_order") X G z0 F_look_order
  obtain ⟨fd_swaps_for, F_swaps_for⟩ := c.def_ 2 (d := d_swaps_for) rfl
  have M_swaps_for := glo_of (x := "swaps_for") X G z0 F_swaps_for
  obtain ⟨fd_fewest_swaps, F_fewest_swaps⟩ := c.def_ 3 (d := d_fewest_swaps) rfl
  have M_fewest_swaps := glo_of (x := "fewest_swaps") X G z0 F_fewest_swaps
  obtain ⟨fd__law_town, F__law_town⟩ := c.def_ 4 (d := d__law_town) rfl
  have M__law_town := glo_of (x := "_law_town") X G z0 F__law_town
  obtain ⟨fd__law_draw, F__law_draw⟩ := c.def_ 5 (d := d__law_draw) rfl
  have M__law_draw := glo_of (x := "_law_draw") X G z0 F__law_draw
  obtain ⟨fd__law_whole, F__law_whole⟩ := c.def_ 6 (d := d__law_whole) rfl
  have M__law_whole := glo_of (x := "_law_whole") X G z0 F__law_whole
  obtain ⟨fd__law_wholes, F__law_wholes⟩ := c.def_ 7 (d := d__law_wholes) rfl
  have M__law_wholes := glo_of (x := "_law_wholes") X G z0 F__law_wholes
  obtain ⟨fd__law_word, F__law_word⟩ := c.def_ 8 (d := d__law_word) rfl
  have M__law_word := glo_of (x := "_law_word") X G z0 F__law_word
  obtain ⟨fd__law_refused, F__law_refused⟩ := c.def_ 9 (d := d__law_refused) rfl
  have M__law_refused := glo_of (x := "_law_refused") X G z0 F__law_refused
  obtain ⟨fd__law_one, F__law_one⟩ := c.def_ 10 (d := d__law_one) rfl
  have M__law_one := glo_of (x := "_law_one") X G z0 F__law_one
  obtain ⟨fd__law_told, F__law_told⟩ := c.def_ 11 (d := d__law_told) rfl
  have M__law_told := glo_of (x := "_law_told") X G z0 F__law_told
  obtain ⟨fd__law_moved, F__law_moved⟩ := c.def_ 12 (d := d__law_moved) rfl
  have M__law_moved := glo_of (x := "_law_moved") X G z0 F__law_moved
  obtain ⟨fd__law_swap, F__law_swap⟩ := c.def_ 13 (d := d__law_swap) rfl
  have M__law_swap := glo_of (x := "_law_swap") X G z0 F__law_swap
  obtain ⟨fd__law_layers, F__law_layers⟩ := c.def_ 14 (d := d__law_layers) rfl
  have M__law_layers := glo_of (x := "_law_layers") X G z0 F__law_layers
  obtain ⟨fd_law, F_law⟩ := c.def_ 15 (d := d_law) rfl
  have e := hfa.symm.trans (glo_of (x := "law") X G z0 F_law)
  cases e
  have b := FunD.bindsA (ps := ["_law_script"]) F_law fun _ _ _ _ _ _ us hl => match us, hl with | [_], _ => rfl
  refine ⟨fd_law, fun s v => b s [v] rfl, fun base _ _ => ?_⟩
  have G_is_number : FnX P w K mg base "is_number" 1 ["thing", "least", "most"] (spF K [.fz, .fz, .fz] f_is_number .fz) := ⟨_, fd_is_number, ok_is_number F_is_number B C, M_is_number, F_is_number.kp, F_is_number.bindsN fun _ _ _ _ _ _ us hl => match us, hl with | [_, _, _], _ => rfl⟩
  have G_look_order : FnX P w K mg base "look_order" 2 ["order"] (spF K [.fz] f_look_order .fz) := ⟨_, fd_look_order, ok_look_order F_look_order B C G_is_number, M_look_order, F_look_order.kp, F_look_order.bindsN fun _ _ _ _ _ _ us hl => match us, hl with | [_], _ => rfl⟩
  have Gx_look_order : FnXx P w K mg base "look_order" 2 ["order"] (spX K [.fz] fx_look_order .fz) := ⟨_, fd_look_order, okx_look_order F_look_order B C G_is_number, M_look_order, F_look_order.kp, F_look_order.bindsN fun _ _ _ _ _ _ us hl => match us, hl with | [_], _ => rfl⟩
  have G_swaps_for : FnX P w K mg base "swaps_for" 1 ["order"] (spF K [.fz] f_swaps_for .ow) := ⟨_, fd_swaps_for, ok_swaps_for F_swaps_for B C, M_swaps_for, F_swaps_for.kp, F_swaps_for.bindsN fun _ _ _ _ _ _ us hl => match us, hl with | [_], _ => rfl⟩
  have G_fewest_swaps : FnX P w K mg base "fewest_swaps" 3 ["order"] (spF K [.fz] f_fewest_swaps .ow) := ⟨_, fd_fewest_swaps, ok_fewest_swaps F_fewest_swaps B C G_look_order G_swaps_for, M_fewest_swaps, F_fewest_swaps.kp, F_fewest_swaps.bindsN fun _ _ _ _ _ _ us hl => match us, hl with | [_], _ => rfl⟩
  have Gx_fewest_swaps : FnXx P w K mg base "fewest_swaps" 3 ["order"] (spX K [.fz] fx_fewest_swaps .fz) := ⟨_, fd_fewest_swaps, okx_fewest_swaps F_fewest_swaps B C G_swaps_for Gx_look_order, M_fewest_swaps, F_fewest_swaps.kp, F_fewest_swaps.bindsN fun _ _ _ _ _ _ us hl => match us, hl with | [_], _ => rfl⟩
  have G__law_town : FnX P w K mg base "_law_town" 1 ["_law_script"] (spF K [.fz] f__law_town .ow) := ⟨_, fd__law_town, ok__law_town F__law_town B C, M__law_town, F__law_town.kp, F__law_town.bindsN fun _ _ _ _ _ _ us hl => match us, hl with | [_], _ => rfl⟩
  have G__law_draw : FnX P w K mg base "_law_draw" 1 ["_law_script", "_law_town_here", "_law_many"] (spF K [.fz, .io, .fz] f__law_draw .fz) := ⟨_, fd__law_draw, ok__law_draw F__law_draw B C, M__law_draw, F__law_draw.kp, F__law_draw.bindsN fun _ _ _ _ _ _ us hl => match us, hl with | [_, _, _], _ => rfl⟩
  have G__law_whole : FnX P w K mg base "_law_whole" 1 ["_law_thing"] (spF K [.fz] f__law_whole .fz) := ⟨_, fd__law_whole, ok__law_whole F__law_whole B C, M__law_whole, F__law_whole.kp, F__law_whole.bindsN fun _ _ _ _ _ _ us hl => match us, hl with | [_], _ => rfl⟩
  have G__law_wholes : FnX P w K mg base "_law_wholes" 2 ["_law_thing"] (spF K [.fz] f__law_wholes .fz) := ⟨_, fd__law_wholes, ok__law_wholes F__law_wholes B C G__law_whole, M__law_wholes, F__law_wholes.kp, F__law_wholes.bindsN fun _ _ _ _ _ _ us hl => match us, hl with | [_], _ => rfl⟩
  have Gw : FnX P w K mg base "_law_word" 2 ["_law_caught"] (spWord K xcL) := ⟨_, fd__law_word, ok__law_word F__law_word B XM XW, M__law_word, F__law_word.kp, F__law_word.bindsN fun _ _ _ _ _ _ us hl => match us, hl with | [_], _ => rfl⟩
  have G__law_refused : FnX P w K mg base "_law_refused" 1 ["_law_word_here"] (spF K [.fz] f__law_refused .fz) := ⟨_, fd__law_refused, ok__law_refused F__law_refused B C, M__law_refused, F__law_refused.kp, F__law_refused.bindsN fun _ _ _ _ _ _ us hl => match us, hl with | [_], _ => rfl⟩
  have G__law_one : FnX P w K mg base "_law_one" 4 ["_law_way", "_law_order"] (spF K [.fz, .fz] f__law_one .ow) := ⟨_, fd__law_one, ok__law_one F__law_one B C G_fewest_swaps, M__law_one, F__law_one.kp, F__law_one.bindsN fun _ _ _ _ _ _ us hl => match us, hl with | [_, _], _ => rfl⟩
  have Gx__law_one : FnXx P w K mg base "_law_one" 4 ["_law_way", "_law_order"] (spX K [.fz, .fz] fx__law_one .fz) := ⟨_, fd__law_one, okx__law_one F__law_one B C Gx_fewest_swaps, M__law_one, F__law_one.kp, F__law_one.bindsN fun _ _ _ _ _ _ us hl => match us, hl with | [_, _], _ => rfl⟩
  have G__law_told : FnX P w K mg base "_law_told" 5 ["_law_way", "_law_some"] (spF K [.fz, .fz] f__law_told .fz) := ⟨_, fd__law_told, ok__law_told F__law_told B XM XW Gx__law_one (by decide) (by decide) Gw, M__law_told, F__law_told.kp, F__law_told.bindsN fun _ _ _ _ _ _ us hl => match us, hl with | [_, _], _ => rfl⟩
  have G__law_moved : FnX P w K mg base "_law_moved" 1 ["_law_order", "_law_many"] (spF K [.fz, .fz] f__law_moved .ow) := ⟨_, fd__law_moved, ok__law_moved F__law_moved B C, M__law_moved, F__law_moved.kp, F__law_moved.bindsN fun _ _ _ _ _ _ us hl => match us, hl with | [_, _], _ => rfl⟩
  have G__law_swap : FnX P w K mg base "_law_swap" 1 ["_law_some", "_law_n"] spSwap := ⟨_, fd__law_swap, ok__law_swap F__law_swap B C, M__law_swap, F__law_swap.kp, F__law_swap.bindsN fun _ _ _ _ _ _ us hl => match us, hl with | [_, _], _ => rfl⟩
  have G__law_layers : FnX P w K mg base "_law_layers" 2 ["_law_order"] (spF K [.fz] f__law_layers .fz) := ⟨_, fd__law_layers, ok__law_layers F__law_layers B C G__law_swap, M__law_layers, F__law_layers.kp, F__law_layers.bindsN fun _ _ _ _ _ _ us hl => match us, hl with | [_], _ => rfl⟩
  exact ok_law F_law B C G__law_draw G__law_layers G__law_moved G__law_refused G__law_told G__law_town G__law_wholes G_fewest_swaps
theorem law_sp {K : PySem.W.Frag} (hl : ∀ ns : List Int, ns.length ≤ 63 → ∃ o, f_law [some (.list (ns.map PyData.int))] = some (.bool true, o)) (H : Hp) (a : Addr) (ns : List Int) (hn : ns.length ≤ 63) (hT : ∀ P, P ∈ tabsOf K → LamX.TabS H P qU) (hS : SqL K H a (ns.map V.int)) : spF K [.fz] f_law .fz [.ref a] H (fun v _ => v = .bl true) fun _ _ _ => False := by
  obtain ⟨o, e⟩ := hl ns hn
  exact law_sp0 e hT hS
theorem no_tabs {w : World} {h : Heap} {K : PySem.W.Frag} (cx : He.SaysX fa fn ts [] exHB w h K) : tabsOf K = [] := by
  have hx0 : exHB K = true := cx.more
  unfold exHB at hx0
  have hx1 := (He.ba hx0).2
  have hx2 := (He.ba hx1).2
  have hx3 := (He.ba hx2).2
  exact of_decide_eq_true (He.ba hx3).1
end DL
open PySem PySem.W PySem.Calls PyProof.Rows
theorem PySem.Challenge.cw_codemill_k55_whole_fewest_swaps_holds : PySem.Challenge.rw_codemill_k55_whole_fewest_swaps.Holds := by
  w_on; o_law
  refine HandSHeadRun.head_any (r := OpenLaw.row PySem.Challenge.rw_codemill_k55_whole_fewest_swaps) (q := view (OpenLaw.row PySem.Challenge.rw_codemill_k55_whole_fewest_swaps).prog [28]) (H := DL.hk) (ob := DL.obX) (M := 12000) (loose := DL.loose) (d := HandSHeadRun.topDef (OpenLaw.row PySem.Challenge.rw_codemill_k55_whole_fewest_swaps).prog 28) (kwd := []) DL.ob_eq
    (by kernel_rfl) (fun s => by kernel_rfl) DL.run (by kernel_rfl) (by kernel_rfl) (by kernel_rfl) (by rfl) (by first | assumption | decide +kernel) (by decide +kernel) ⟨rfl, rfl, rfl, rfl, rfl, by decide +kernel⟩ ?hw ?hc
  case hw => w_witness2
  case hc =>
    refine DL.walk_law (l := PySem.Challenge.rw_codemill_k55_whole_fewest_swaps) (n := 63) (k := 6) (x := "_law_script") rfl (by decide) (by kernel_rfl) ⟨rfl, by decide, by decide⟩ fun w mg fa h Y G hmg0 => ?_
    obtain ⟨K, KX, c⟩ := Y
    have hn : (HandSHeadRun.topDef (OpenLaw.row PySem.Challenge.rw_codemill_k55_whole_fewest_swaps).prog 28).name = ("law" : PySem.Str) := by kernel_rfl
    obtain ⟨fd, hb, hF⟩ := DL.facts (P := PySem.Challenge.rw_codemill_k55_whole_fewest_swaps.prog) (w := w) KX G (by rw [← hn]; exact hmg0) c
    exact ⟨K, fd, _, KX, hb, fun H a ns hl hS => DL.law_sp DL.law_true H a ns hl (fun P hP => by rw [DL.no_tabs c] at hP; cases hP) hS, hF⟩
