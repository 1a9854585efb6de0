import PyProof.Rows.All
import Wide.All
import OpenK.AllK
import Wide.FinOn
import HandS.ForMost
import HandS.Zip
import HandS.Star
import HandS.TupAny
import HandS.TupMul
import HandS.Walk
import HandS.IsInst
import HandS.Style
import HandS.Conv
import HandS.Set
import PyProof.ReprRoads
import KE.GoesMore
import KE.GoesEnum
import HandS.SetFor
import HandS.Strs
import KE.KDictList
import PySem.Challenge.RW_stepsbehind_k10_whole_levels
section
set_option Elab.async false
set_option linter.all false
set_option maxRecDepth 100000
set_option maxHeartbeats 2000000
/-! Sx1: data in the heap, moves of the heap, expressions as functions on data. -/
namespace Sb
open PySem PySem.Spec L2
open PyProof.Rows hiding St

/-! ### data in the heap -/
def kD : Key → PyData
  | .inl i => .int i
  | .inr s => .str s
mutual
inductive Da (H : Hp) : V → PyData → Prop
  | non : Da H .non .none
  | bl (b : Bool) : Da H (.bl b) (.bool b)
  | int (i : Int) : Da H (.int i) (.int i)
  | str (x : Str) : Da H (.str x) (.str x)
  | lst {a : Addr} {xs : List V} {ds : List PyData} : H a = some (.lst xs) → DaAll H xs ds → Da H (.ref a) (.list ds)
  | tup {a : Addr} {xs : List V} {ds : List PyData} : H a = some (.tup xs) → DaAll H xs ds → Da H (.ref a) (.tuple ds)
  | dic {a : Addr} {kvs : List (Key × V)} {ds : List (PyData × PyData)} : H a = some (.dK kvs) → DaKv H kvs ds → Da H (.ref a) (.dict ds)
inductive DaAll (H : Hp) : List V → List PyData → Prop
  | nil : DaAll H [] []
  | cons {v : V} {vs : List V} {d : PyData} {ds : List PyData} : Da H v d → DaAll H vs ds → DaAll H (v :: vs) (d :: ds)
inductive DaKv (H : Hp) : List (Key × V) → List (PyData × PyData) → Prop
  | nil : DaKv H [] []
  | cons {k : Key} {v : V} {vs : List (Key × V)} {d : PyData} {ds : List (PyData × PyData)} : Da H v d → DaKv H vs ds → DaKv H ((k, v) :: vs) ((kD k, d) :: ds)
end

section
variable {G H : Hp}
mutual
theorem Da.mono (s : Same G H) : ∀ {v : V} {d : PyData}, Da G v d → Da H v d
  | _, _, .non => .non
  | _, _, .bl b => .bl b
  | _, _, .int i => .int i
  | _, _, .str x => .str x
  | _, _, .lst h r => .lst (s _ _ h) (DaAll.mono s r)
  | _, _, .tup h r => .tup (s _ _ h) (DaAll.mono s r)
  | _, _, .dic h r => .dic (s _ _ h) (DaKv.mono s r)
theorem DaAll.mono (s : Same G H) : ∀ {v : List V} {d : List PyData}, DaAll G v d → DaAll H v d
  | _, _, .nil => .nil
  | _, _, .cons h r => .cons (Da.mono s h) (DaAll.mono s r)
theorem DaKv.mono (s : Same G H) : ∀ {v : List (Key × V)} {d : List (PyData × PyData)}, DaKv G v d → DaKv H v d
  | _, _, .nil => .nil
  | _, _, .cons h r => .cons (Da.mono s h) (DaKv.mono s r)
end
theorem DaAll.length : ∀ {v : List V} {d : List PyData}, DaAll G v d → v.length = d.length
  | _, _, .nil => rfl
  | _, _, .cons _ r => by rw [List.length_cons, List.length_cons, DaAll.length r]
theorem DaAll.get : ∀ {v : List V} {d : List PyData} {i : Nat} {x : PyData}, DaAll G v d → d[i]? = some x → ∃ u, v[i]? = some u ∧ Da G u x
  | _, _, _, _, .nil, e => by simp at e
  | _, _, 0, _, .cons r _, e => by simp at e; subst e; exact ⟨_, rfl, r⟩
  | _, _, i + 1, _, .cons _ t, e => by
    obtain ⟨u, h1, h2⟩ := DaAll.get (i := i) t (by simpa using e)
    exact ⟨u, by simpa using h1, h2⟩
theorem DaAll.get' : ∀ {v : List V} {d : List PyData} {i : Nat} {x : V}, DaAll G v d → v[i]? = some x → ∃ u, d[i]? = some u ∧ Da G x u
  | _, _, _, _, .nil, e => by simp at e
  | _, _, 0, _, .cons r _, e => by simp at e; subst e; exact ⟨_, rfl, r⟩
  | _, _, i + 1, _, .cons _ t, e => by
    obtain ⟨u, h1, h2⟩ := DaAll.get' (i := i) t (by simpa using e)
    exact ⟨u, by simpa using h1, h2⟩
theorem DaAll.append : ∀ {v w : List V} {d e : List PyData}, DaAll G v d → DaAll G w e → DaAll G (v ++ w) (d ++ e)
  | _, _, _, _, .nil, s => s
  | _, _, _, _, .cons r t, s => .cons r (DaAll.append t s)
theorem DaAll.take : ∀ {v : List V} {d : List PyData} (n : Nat), DaAll G v d → DaAll G (v.take n) (d.take n)
  | _, _, 0, _ => .nil
  | _, _, _ + 1, .nil => .nil
  | _, _, n + 1, .cons r t => .cons r (DaAll.take n t)
theorem DaAll.drop : ∀ {v : List V} {d : List PyData} (n : Nat), DaAll G v d → DaAll G (v.drop n) (d.drop n)
  | _, _, 0, r => r
  | _, _, _ + 1, .nil => .nil
  | _, _, n + 1, .cons _ t => DaAll.drop n t
theorem DaAll.set {x : V} {y : PyData} (r : Da G x y) : ∀ {v : List V} {d : List PyData} (i : Nat), DaAll G v d → DaAll G (v.set i x) (d.set i y)
  | _, _, _, .nil => .nil
  | _, _, 0, .cons _ t => .cons r t
  | _, _, i + 1, .cons q t => .cons q (DaAll.set r i t)
theorem DaAll.rep {x : V} {y : PyData} (r : Da G x y) : ∀ n : Nat, DaAll G (List.replicate n x) (List.replicate n y)
  | 0 => .nil
  | n + 1 => .cons r (DaAll.rep r n)
theorem DaAll.one {x : V} {y : PyData} (r : Da G x y) : DaAll G [x] [y] := .cons r .nil
theorem Da.int' {v : V} {i : Int} (h : Da G v (.int i)) : v = .int i := by cases h; rfl
theorem Da.bl' {v : V} {i : Bool} (h : Da G v (.bool i)) : v = .bl i := by cases h; rfl
theorem Da.str' {v : V} {i : Str} (h : Da G v (.str i)) : v = .str i := by cases h; rfl
theorem Da.non' {v : V} (h : Da G v .none) : v = .non := by cases h; rfl
theorem DaAll.ints : ∀ {v : List V} {ns : List Int}, DaAll G v (ns.map .int) → v = ns.map V.int
  | _, [], .nil => rfl
  | _, _ :: _, .cons h r => by rw [List.map_cons, h.int', DaAll.ints r]
theorem DaAll.of_ints : ∀ ns : List Int, DaAll G (ns.map V.int) (ns.map .int)
  | [] => .nil
  | _ :: r => .cons (.int _) (DaAll.of_ints r)
theorem DaAll.bls : ∀ {v : List V} {ns : List Bool}, DaAll G v (ns.map .bool) → v = ns.map V.bl
  | _, [], .nil => rfl
  | _, _ :: _, .cons h r => by rw [List.map_cons, h.bl', DaAll.bls r]
mutual
theorem Da.toDp {K : PySem.W.Frag} : ∀ {v : V} {d : PyData}, Da G v d → PyData.canLay0 d = true → Dp K G v d
  | _, _, .non, _ => .non
  | _, _, .bl b, _ => .bl b
  | _, _, .int i, _ => .int i
  | _, _, .str x, _ => .str x
  | _, _, .lst h r, c => .lst (SqL.of h) (DaAll.toDp r (by simpa [PyData.canLay0] using c))
  | _, _, .tup h r, c => .tup (SqT.of h) (DaAll.toDp r (by simpa [PyData.canLay0] using c))
  | _, _, .dic h r, c => by simp [PyData.canLay0] at c
theorem DaAll.toDp {K : PySem.W.Frag} : ∀ {v : List V} {d : List PyData}, DaAll G v d → PyData.canLayAll0 d = true → DpAll K G v d
  | _, _, .nil, _ => .nil
  | _, d :: ds, .cons h r, c => by
    have c' : PyData.canLay0 d = true ∧ PyData.canLayAll0 ds = true := by simpa [PyData.canLayAll0] using c
    exact .cons (Da.toDp h c'.1) (DaAll.toDp r c'.2)
end
end
/-- a value that needs no heap -/
def scd : PyData → Bool
  | .none => true
  | .bool _ => true
  | .int _ => true
  | .str _ => true
  | _ => false
theorem Da.sc {G H : Hp} {v : V} {d : PyData} (h : Da G v d) (s : scd d = true) : Da H v d := by
  cases h with
  | non => exact .non
  | bl b => exact .bl b
  | int i => exact .int i
  | str x => exact .str x
  | lst _ _ => cases s
  | tup _ _ => cases s
  | dic _ _ => cases s

/-! ### moves: G is what is fixed, H the whole; from G, H to G', H' -/
structure Mv (G H G' H' : Hp) : Prop where
  g : Same G G'
  s : Same G' H'
  h : Same H H'
  f : ∀ p, G p = none → (∃ o, H p = some o) → G' p = none
theorem Mv.refl {G H : Hp} (s : Same G H) : Mv G H G H := ⟨.refl _, s, .refl _, fun _ e _ => e⟩
theorem Mv.trans {G H G1 H1 G2 H2 : Hp} (a : Mv G H G1 H1) (b : Mv G1 H1 G2 H2) : Mv G H G2 H2 :=
  ⟨a.g.trans b.g, b.s, a.h.trans b.h, fun p e ⟨o, ho⟩ => b.f p (a.f p e ⟨o, ho⟩) ⟨o, a.h p o ho⟩⟩
theorem same_new {H : Hp} {p : Addr} {o : HO} (h : H p = none) : Same H (upd H p o) := fun b x e => by
  rw [upd_ne (ne_of_none e h)]
  exact e
theorem same_upd2 {G H : Hp} {p : Addr} {o : HO} (s : Same G H) : Same (upd G p o) (upd H p o) := fun b x e => by
  by_cases hb : b = p
  · subst hb
    rw [upd_same] at e ⊢
    exact e
  · rw [upd_ne hb] at e ⊢
    exact s b x e
/-- a change at p, that G does not know -/
theorem same_mut {G H : Hp} {p : Addr} {o : HO} (s : Same G H) (h : G p = none) : Same G (upd H p o) := fun b x e => by
  rw [upd_ne (ne_of_none e h)]
  exact s b x e
theorem Mv.new {G H : Hp} {p : Addr} {o : HO} (s : Same G H) (h : H p = none) : Mv G H (upd G p o) (upd H p o) :=
  ⟨same_new (s.free h), same_upd2 s, same_new h, fun q e ⟨x, hx⟩ => by rw [upd_ne (ne_of_none hx h)]; exact e⟩
/-- a new object that stays outside of G -/
theorem Mv.newH {G H : Hp} {p : Addr} {o : HO} (s : Same G H) (h : H p = none) : Mv G H G (upd H p o) :=
  ⟨.refl _, s.trans (same_new h), same_new h, fun _ e _ => e⟩
/-- nothing of what is new is wanted -/
theorem Mv.low {G H G' H' : Hp} (m : Mv G H G' H') : Mv G H G H' := ⟨.refl _, m.g.trans m.s, m.h, fun _ e _ => e⟩
/-- from a greater G, nothing of it is wanted -/
theorem Mv.under {G G1 H G' H' : Hp} (s : Same G G1) (m : Mv G1 H G' H') : Mv G H G H' := ⟨.refl _, (s.trans m.g).trans m.s, m.h, fun _ e _ => e⟩

/-! ### readings that are functions on data -/
abbrev En := List (Option PyData)
structure EnvOk (G : Hp) (σ : St) (env : En) : Prop where
  len : env.length = σ.length
  get : ∀ (i : Nat) (d : PyData), env[i]? = some (some d) → ∃ v, σ[i]? = some (some v) ∧ Da G v d
theorem EnvOk.mono {G H : Hp} {σ : St} {env : En} (s : Same G H) (h : EnvOk G σ env) : EnvOk H σ env := ⟨h.len, fun i d e =>
  let ⟨v, h1, h2⟩ := h.get i d e
  ⟨v, h1, h2.mono s⟩⟩
def tD (f : En → Option PyData) : TE := fun σ H Q => ∃ G env d, Same G H ∧ EnvOk G σ env ∧ f env = some d ∧ ∀ v G' H', Mv G H G' H' → Da G' v d → Q v H'
/-- te comes to d, from all that lies over G -/
def Ed (te : TE) (σ : St) (G : Hp) (d : PyData) : Prop := ∀ H, Same G H → ∀ Q : VK, (∀ v G' H', Mv G H G' H' → Da G' v d → Q v H') → te σ H Q
theorem ed_of {f : En → Option PyData} {σ : St} {G : Hp} {env : En} {d : PyData} (h : EnvOk G σ env) (e : f env = some d) : Ed (tD f) σ G d :=
  fun _ s _ q => ⟨G, env, d, s, h, e, q⟩
theorem Ed.mono {te : TE} {σ : St} {G G1 : Hp} {d : PyData} (h : Ed te σ G d) (s : Same G G1) (n : ∀ H, Same G1 H → Same G H) (k : scd d = true) : Ed te σ G1 d := fun H s1 Q q =>
  h H (n H s1) Q fun v G' H' m r => q v G1 H' ⟨.refl _, fun b o e => m.h b o (s1 b o e), m.h, fun _ e _ => e⟩ (r.sc k)
theorem PE.weak {X : Cx} {e : Expr} {t t' : TE} (h : PE X e t) (w : ∀ σ H Q, t' σ H Q → t σ H Q) : PE X e t' := ⟨fun pins s σ H Q I q => h.run pins s σ H Q I (w σ H Q q)⟩
theorem pd_of {X : Cx} {e : Expr} {t : TE} {f : En → Option PyData} (h : PE X e t) (w : ∀ G σ env d, EnvOk G σ env → f env = some d → Ed t σ G d) : PE X e (tD f) :=
  PE.weak h fun σ H Q ⟨G, env, d, s, ok, e, q⟩ => w G σ env d ok e H s Q q
/-- tests -/
def tT (f : En → Option Bool) : TT := fun σ H Q => ∃ G env b, Same G H ∧ EnvOk G σ env ∧ f env = some b ∧ ∀ G' H', Mv G H G' H' → Q b H'
def Et (tt : TT) (σ : St) (G : Hp) (b : Bool) : Prop := ∀ H, Same G H → ∀ Q : Bool → Hp → Prop, (∀ G' H', Mv G H G' H' → Q b H') → tt σ H Q
theorem et_of {f : En → Option Bool} {σ : St} {G : Hp} {env : En} {b : Bool} (h : EnvOk G σ env) (e : f env = some b) : Et (tT f) σ G b :=
  fun _ s _ q => ⟨G, env, b, s, h, e, q⟩
theorem PT.weak {X : Cx} {e : Expr} {t t' : TT} (h : PT X e t) (w : ∀ σ H Q, t' σ H Q → t σ H Q) : PT X e t' := ⟨fun pins s σ H Q I q => h.run pins s σ H Q I (w σ H Q q)⟩
theorem PW.weak {X : Cx} {e : Expr} {t t' : TT} (h : PW X e t) (w : ∀ σ H Q, t' σ H Q → t σ H Q) : PW X e t' := ⟨fun whole pins s σ H Q I q => h.run whole pins s σ H Q I (w σ H Q q)⟩
theorem pt_of {X : Cx} {e : Expr} {t : TT} {f : En → Option Bool} (h : PT X e t) (w : ∀ G σ env b, EnvOk G σ env → f env = some b → Et t σ G b) : PT X e (tT f) :=
  PT.weak h fun σ H Q ⟨G, env, b, s, ok, e, q⟩ => w G σ env b ok e H s Q q
/-- argument lists -/
def tDs (f : En → Option (List PyData)) : TA := fun σ H Q => ∃ G env ds, Same G H ∧ EnvOk G σ env ∧ f env = some ds ∧ ∀ vs G' H', Mv G H G' H' → DaAll G' vs ds → Q vs H'
def Eds (ta : TA) (σ : St) (G : Hp) (ds : List PyData) : Prop := ∀ H, Same G H → ∀ Q : List V → Hp → Prop, (∀ vs G' H', Mv G H G' H' → DaAll G' vs ds → Q vs H') → ta σ H Q
theorem eds_of {f : En → Option (List PyData)} {σ : St} {G : Hp} {env : En} {ds : List PyData} (h : EnvOk G σ env) (e : f env = some ds) : Eds (tDs f) σ G ds :=
  fun _ s _ q => ⟨G, env, ds, s, h, e, q⟩
theorem PA.weak {X : Cx} {es : List Expr} {t t' : TA} (h : PA X es t) (w : ∀ σ H Q, t' σ H Q → t σ H Q) : PA X es t' := ⟨fun pos pins s σ H Q I q => h.run pos pins s σ H Q I (w σ H Q q)⟩
theorem pa_of {X : Cx} {e : List Expr} {t : TA} {f : En → Option (List PyData)} (h : PA X e t) (w : ∀ G σ env d, EnvOk G σ env → f env = some d → Eds t σ G d) : PA X e (tDs f) :=
  PA.weak h fun σ H Q ⟨G, env, d, s, ok, e, q⟩ => w G σ env d ok e H s Q q

/-! ### the small expressions -/
section
variable {X : Cx} {a b c e : Expr} {es : List Expr} {fa fb fc : En → Option PyData} {fs : En → Option (List PyData)} {pos p : Pos}
def eV (i : Nat) : En → Option PyData := fun env => (env[i]?).join
def eC (d : PyData) : En → Option PyData := fun _ => some d
theorem eV_some {i : Nat} {env : En} {d : PyData} (h : eV i env = some d) : env[i]? = some (some d) := by
  unfold eV at h
  cases q : env[i]? with
  | none => rw [q] at h; cases h
  | some o => rw [q] at h; rw [show o = some d from h]
theorem ed_var {i : Nat} {G : Hp} {σ : St} {env : En} {d : PyData} (ok : EnvOk G σ env) (h : eV i env = some d) : Ed (tVar i) σ G d := fun H s Q q => by
  obtain ⟨v, h1, h2⟩ := ok.get i d (eV_some h)
  exact ⟨v, h1, q v G H (.refl s) h2⟩
theorem ed_c {v : V} {d : PyData} {G : Hp} {σ : St} (h : ∀ G, Da G v d) : Ed (tC v) σ G d := fun H s Q q => q v G H (.refl s) (h G)
theorem pd_var (i : Nat) {x : Str} (hN : X.N[i]? = some x := by rfl) (hv : Vis X.env.scope x := by first | exact Or.inl rfl | exact Or.inr (Or.inl rfl) | exact Or.inr (Or.inr rfl)) (hd : (x == ("__debug__" : Str)) = false := by decide)
    (hcd : (x == ("__classdict__" : Str)) = false := by decide) : PE X (.Name x pos) (tD (eV i)) := pd_of (pe_var hN hv hd hcd) fun _ _ _ _ ok h => ed_var ok h
theorem pd_c {e : Expr} {v : V} {d : PyData} (h : PE X e (tC v)) (hd : ∀ G, Da G v d) : PE X e (tD (eC d)) := pd_of h fun G σ env d' ok e => by
  obtain rfl : d = d' := Option.some.inj e
  exact ed_c hd
theorem pd_int {i : Int} {j} : PE X (.Constant (.int i) j pos) (tD (eC (.int i))) := pd_c pe_int fun _ => .int i
theorem pd_bl {i : Bool} {j} : PE X (.Constant (.bool i) j pos) (tD (eC (.bool i))) := pd_c pe_bl fun _ => .bl i
theorem pd_non {j} : PE X (.Constant .none j pos) (tD (eC .none)) := pd_c pe_non fun _ => .non
theorem pd_str {i : Str} {j} : PE X (.Constant (.str i) j pos) (tD (eC (.str i))) := pd_c pe_str fun _ => .str i
/-- a module's constant -/
theorem pd_gint {x : Str} {i : Int} {t : Tok} (hm : X.mg x = some (.int i t)) (hg : Gl X x := by rfl) (hd : (x == ("__debug__" : Str)) = false := by decide) : PE X (.Name x pos) (tD (eC (.int i))) := pd_c (pe_glob (v := .int i) hg hm ⟨t, rfl⟩ hd) fun _ => .int i
theorem pd_gstr {x : Str} {i : Str} {t : Tok} (hm : X.mg x = some (.str i t)) (hg : Gl X x := by rfl) (hd : (x == ("__debug__" : Str)) = false := by decide) : PE X (.Name x pos) (tD (eC (.str i))) := pd_c (pe_glob (v := .str i) hg hm ⟨t, rfl⟩ hd) fun _ => .str i

/-- a two-place operation by data -/
def RD (r : R2) (g : PyData → PyData → Option PyData) : Prop := ∀ (G H : Hp) (x y : V) (dx dy d : PyData), Same G H → Da G x dx → Da G y dy → g dx dy = some d → ∀ Q : VK, (∀ v G' H', Mv G H G' H' → Da G' v d → Q v H') → r x y H Q
def e2 (g : PyData → PyData → Option PyData) (f1 f2 : En → Option PyData) : En → Option PyData := fun env => (f1 env).bind fun a => (f2 env).bind fun b => g a b
def e1 (g : PyData → Option PyData) (f1 : En → Option PyData) : En → Option PyData := fun env => (f1 env).bind g
theorem e2_some {g : PyData → PyData → Option PyData} {f1 f2 : En → Option PyData} {env : En} {d : PyData} (h : e2 g f1 f2 env = some d) : ∃ a b, f1 env = some a ∧ f2 env = some b ∧ g a b = some d := by
  obtain ⟨a, h1, h⟩ := Option.bind_eq_some_iff.mp h
  obtain ⟨b, h2, h⟩ := Option.bind_eq_some_iff.mp h
  exact ⟨a, b, h1, h2, h⟩
theorem ed_op {r : R2} {g : PyData → PyData → Option PyData} {ta tb : TE} {σ : St} {G : Hp} {x y d : PyData} (hr : RD r g) (ha : Ed ta σ G x) (hb : ∀ G', Same G G' → Ed tb σ G' y) (h : g x y = some d) : Ed (tOp r ta tb) σ G d := fun H s Q q =>
  ha H s _ fun v1 G1 H1 m1 d1 => hb G1 m1.g H1 m1.s _ fun v2 G2 H2 m2 d2 => hr G2 H2 v1 v2 x y d m2.s (d1.mono m2.g) d2 h Q fun v G3 H3 m3 d3 => q v G3 H3 ((m1.trans m2).trans m3) d3
theorem op_ed {r : R2} {g : PyData → PyData → Option PyData} {G : Hp} {σ : St} {env : En} {d : PyData} (hr : RD r g) (ok : EnvOk G σ env) (h : e2 g fa fb env = some d) : Ed (tOp r (tD fa) (tD fb)) σ G d := by
  obtain ⟨x, y, h1, h2, h3⟩ := e2_some h
  exact ed_op hr (ed_of ok h1) (fun G' s => ed_of (ok.mono s) h2) h3
theorem pd_op {op : Operator} {r : R2} {g : PyData → PyData → Option PyData} (ho : OpR X (binaryOp op) r) (hr : RD r g) (ha : PE X a (tD fa)) (hb : PE X b (tD fb)) : PE X (.BinOp a op b pos) (tD (e2 g fa fb)) :=
  pd_of (pe_op ho ha hb) fun _ _ _ _ ok h => op_ed hr ok h
theorem pd_cmp {op : CmpOp} {r : R2} {g : PyData → PyData → Option PyData} (ho : OpR X (compareOp op) r) (hr : RD r g) (ha : PE X a (tD fa)) (hb : PE X b (tD fb)) (hm : behindInMarks op b = false := by first | exact nomark _ | rfl) :
    PE X (.Compare a [op] [b] pos) (tD (e2 g fa fb)) := pd_of (pe_cmpR ho ha hb hm) fun _ _ _ _ ok h => op_ed hr ok h
theorem pd_ix {r : R2} {g : PyData → PyData → Option PyData} (ho : IxR X r) (hr : RD r g) (ha : PE X a (tD fa)) (hb : PE X b (tD fb)) (hs : PlainIx b := by exact fun _ _ => rfl) : PE X (.Subscript a b pos) (tD (e2 g fa fb)) :=
  pd_of (pe_ix ho ha hb hs) fun _ _ _ _ ok h => op_ed hr ok h

/-- a truth value -/
def asB : PyData → Option Bool
  | .bool b => some b
  | _ => none
theorem asB_some {d : PyData} {b : Bool} (h : asB d = some b) : d = .bool b := by
  cases d with
  | bool c => rw [show c = b from Option.some.inj h]
  | _ => cases h
/-- a test that is an expression's truth value -/
def fT (f : En → Option PyData) : En → Option Bool := fun env => (f env).bind asB
theorem fT_some {f : En → Option PyData} {env : En} {b : Bool} (h : fT f env = some b) : f env = some (.bool b) := by
  obtain ⟨d, h1, h2⟩ := Option.bind_eq_some_iff.mp h
  rw [h1, asB_some h2]
theorem et_B {te : TE} {σ : St} {G : Hp} {b : Bool} (h : Ed te σ G (.bool b)) : Et (tB te) σ G b := fun H s Q q => h H s _ fun v G' H' m d => ⟨b, d.bl', q G' H' m⟩
theorem et_Test {te : TE} {σ : St} {G : Hp} {b : Bool} (h : Ed te σ G (.bool b)) : Et (tTest te) σ G b := fun H s Q q => h H s _ fun v G' H' m d => ⟨b, d.bl', q G' H' m⟩
theorem td_val {e : Expr} {f : En → Option PyData} (h : PE X e (tD f)) (he : ∀ whole, isTrue e X.env whole = (do let v ← whole; standAt e.pos; holding [v] (truthy v)) := by intro _; rfl) : PT X e (tT (fT f)) :=
  pt_of (pt_val h he) fun _ _ _ _ ok h => et_B (ed_of ok (fT_some h))
theorem td_cmp {op : CmpOp} {r : R2} {g : PyData → PyData → Option PyData} (ho : OpR X (compareOp op) r) (hr : RD r g) (ha : PE X a (tD fa)) (hb : PE X b (tD fb)) (hm : behindInMarks op b = false := by first | exact nomark _ | rfl) :
    PT X (.Compare a [op] [b] pos) (tT (fT (e2 g fa fb))) := pt_of (pt_cmpR ho ha hb hm) fun _ _ _ _ ok h => et_Test (op_ed hr ok (fT_some h))
variable {ta tb : En → Option Bool}
def fAnd (f g : En → Option Bool) : En → Option Bool := fun env => (f env).bind fun x => if x = true then g env else some false
def fOr (f g : En → Option Bool) : En → Option Bool := fun env => (f env).bind fun x => if x = true then some true else g env
def fNot (f : En → Option Bool) : En → Option Bool := fun env => (f env).map fun x => !x
theorem tw_and1 (ha : PT X a (tT ta)) : PW X (.BoolOp .And [a] pos) (tT ta) := pw_and1 ha
theorem tw_or1 (ha : PT X a (tT ta)) : PW X (.BoolOp .Or [a] pos) (tT ta) := pw_or1 ha
theorem tw_and {rest : List Expr} (ha : PT X a (tT ta)) (hb : PW X (.BoolOp .And (b :: rest) pos) (tT tb)) : PW X (.BoolOp .And (a :: b :: rest) pos) (tT (fAnd ta tb)) :=
  PW.weak (pw_and ha hb) fun σ H Q ⟨G, env, x, s, ok, e, q⟩ => by
    obtain ⟨c, h1, h2⟩ := Option.bind_eq_some_iff.mp e
    refine ⟨G, env, c, s, ok, h1, fun G' H' m => ?_⟩
    cases c with
    | true => exact iteT ⟨G', env, x, m.s, ok.mono m.g, h2, fun G2 H2 m2 => q G2 H2 (m.trans m2)⟩
    | false =>
      obtain rfl : false = x := Option.some.inj h2
      exact iteF (q G' H' m)
theorem tw_or {rest : List Expr} (ha : PT X a (tT ta)) (hb : PW X (.BoolOp .Or (b :: rest) pos) (tT tb)) : PW X (.BoolOp .Or (a :: b :: rest) pos) (tT (fOr ta tb)) :=
  PW.weak (pw_or ha hb) fun σ H Q ⟨G, env, x, s, ok, e, q⟩ => by
    obtain ⟨c, h1, h2⟩ := Option.bind_eq_some_iff.mp e
    refine ⟨G, env, c, s, ok, h1, fun G' H' m => ?_⟩
    cases c with
    | false => exact iteF ⟨G', env, x, m.s, ok.mono m.g, h2, fun G2 H2 m2 => q G2 H2 (m.trans m2)⟩
    | true =>
      obtain rfl : true = x := Option.some.inj h2
      exact iteT (q G' H' m)
theorem td_not (ha : PT X a (tT ta)) : PT X (.UnaryOp .Not a pos) (tT (fNot ta)) :=
  pt_of (pt_not ha) fun G σ env x ok h H s Q q => by
    obtain ⟨c, h1, h2⟩ := Option.map_eq_some_iff.mp h
    subst h2
    exact ⟨G, env, c, s, ok, h1, fun G1 H1 m => q G1 H1 m⟩
/-- truth values by and, or, not -/
def bO (o : Option Bool) : Option PyData := o.map .bool
def fB (f : En → Option Bool) : En → Option PyData := fun env => bO (f env)
theorem fT_fB (f : En → Option Bool) (env : En) : fT (fB f) env = f env := by
  unfold fT fB bO
  cases f env <;> rfl
theorem pd_one {op} (h : PE X a (tD fa)) : PE X (.BoolOp op [a] pos) (tD fa) := pe_one h
def eAnd (f g : En → Option PyData) : En → Option PyData := fun env => (fT f env).bind fun x => if x = true then g env else some (.bool false)
def eOr (f g : En → Option PyData) : En → Option PyData := fun env => (fT f env).bind fun x => if x = true then some (.bool true) else g env
def eNot (f : En → Option PyData) : En → Option PyData := fun env => (fT f env).map fun x => .bool (!x)
theorem pd_and {rest : List Expr} (ha : PE X a (tD fa)) (hb : PE X (.BoolOp .And (b :: rest) pos) (tD fb)) : PE X (.BoolOp .And (a :: b :: rest) pos) (tD (eAnd fa fb)) :=
  pd_of (pe_and ha hb) fun G σ env x ok h H s Q q => by
    obtain ⟨c, h1, h2⟩ := Option.bind_eq_some_iff.mp h
    refine ⟨G, env, _, s, ok, fT_some h1, fun v G' H' m d => ⟨c, d.bl', ?_⟩⟩
    cases c with
    | true => exact iteT ⟨G', env, x, m.s, ok.mono m.g, h2, fun v G2 H2 m2 d2 => q v G2 H2 (m.trans m2) d2⟩
    | false =>
      obtain rfl : .bool false = x := Option.some.inj h2
      exact iteF (q _ G' H' m (.bl _))
theorem pd_or {rest : List Expr} (ha : PE X a (tD fa)) (hb : PE X (.BoolOp .Or (b :: rest) pos) (tD fb)) : PE X (.BoolOp .Or (a :: b :: rest) pos) (tD (eOr fa fb)) :=
  pd_of (pe_or ha hb) fun G σ env x ok h H s Q q => by
    obtain ⟨c, h1, h2⟩ := Option.bind_eq_some_iff.mp h
    refine ⟨G, env, _, s, ok, fT_some h1, fun v G' H' m d => ⟨c, d.bl', ?_⟩⟩
    cases c with
    | false => exact iteF ⟨G', env, x, m.s, ok.mono m.g, h2, fun v G2 H2 m2 d2 => q v G2 H2 (m.trans m2) d2⟩
    | true =>
      obtain rfl : .bool true = x := Option.some.inj h2
      exact iteT (q _ G' H' m (.bl _))
theorem pd_not (ha : PE X a (tD fa)) : PE X (.UnaryOp .Not a pos) (tD (eNot fa)) :=
  pd_of (pe_not ha) fun G σ env x ok h H s Q q => by
    obtain ⟨c, h1, h2⟩ := Option.map_eq_some_iff.mp h
    subst h2
    exact ⟨G, env, _, s, ok, fT_some h1, fun v G' H' m d => ⟨c, d.bl', q _ G' H' m (.bl _)⟩⟩
def eIf (f : En → Option Bool) (g h : En → Option PyData) : En → Option PyData := fun env => (f env).bind fun x => if x = true then g env else h env
theorem pd_if {c : Expr} (hc : PT X c (tT ta)) (ha : PE X a (tD fa)) (hb : PE X b (tD fb)) : PE X (.IfExp c a b pos) (tD (eIf ta fa fb)) :=
  pd_of (pe_ifExp hc ha hb) fun G σ env x ok h H s Q q => by
    obtain ⟨c, h1, h2⟩ := Option.bind_eq_some_iff.mp h
    refine ⟨G, env, c, s, ok, h1, fun G' H' m => ?_⟩
    cases c with
    | true => exact iteT ⟨G', env, x, m.s, ok.mono m.g, h2, fun v G2 H2 m2 d2 => q v G2 H2 (m.trans m2) d2⟩
    | false => exact iteF ⟨G', env, x, m.s, ok.mono m.g, h2, fun v G2 H2 m2 d2 => q v G2 H2 (m.trans m2) d2⟩
/-- a < b < c -/
def eChain (g g' : PyData → PyData → Option PyData) (f1 f2 f3 : En → Option PyData) : En → Option PyData := fun env => (f1 env).bind fun x => (f2 env).bind fun y => ((g x y).bind asB).bind fun k => if k = true then (f3 env).bind fun z => g' y z else some (.bool false)
theorem pd_chain {op op' : CmpOp} {r r' : R2} {g g' : PyData → PyData → Option PyData} (ho : OpR X (compareOp op) r) (hr : RD r g) (ho' : OpR X (compareOp op') r') (hr' : RD r' g') (ha : PE X a (tD fa)) (hb : PE X b (tD fb)) (hc : PE X c (tD fc))
    (hm : lastMarks [op, op'] [b, c] = false := by with_unfolding_all rfl) : PE X (.Compare a [op, op'] [b, c] pos) (tD (eChain g g' fa fb fc)) :=
  pd_of (pe_chain ho ho' ha hb hc hm) fun G σ env d ok h H s Q q => by
    obtain ⟨x, h1, h⟩ := Option.bind_eq_some_iff.mp h
    obtain ⟨y, h2, h⟩ := Option.bind_eq_some_iff.mp h
    obtain ⟨k, h3, h⟩ := Option.bind_eq_some_iff.mp h
    obtain ⟨z, h4, h5⟩ := Option.bind_eq_some_iff.mp h3
    rw [asB_some h5] at h4
    refine ⟨G, env, x, s, ok, h1, fun v1 G1 H1 m1 d1 => ⟨G1, env, y, m1.s, ok.mono m1.g, h2, fun v2 G2 H2 m2 d2 => ?_⟩⟩
    refine hr G2 H2 v1 v2 x y _ m2.s (d1.mono m2.g) d2 h4 _ fun v3 G3 H3 m3 d3 => ⟨k, d3.bl', ?_⟩
    cases k with
    | true =>
      obtain ⟨w, h6, h7⟩ := Option.bind_eq_some_iff.mp h
      refine iteT ⟨G3, env, w, m3.s, ((ok.mono m1.g).mono m2.g).mono m3.g, h6, fun v4 G4 H4 m4 d4 => ?_⟩
      exact hr' G4 H4 v2 v4 y w d m4.s ((d2.mono m3.g).mono m4.g) d4 h7 Q fun v G5 H5 m5 d5 => q v G5 H5 ((((m1.trans m2).trans m3).trans m4).trans m5) d5
    | false =>
      obtain rfl : .bool false = d := Option.some.inj h
      exact iteF (q _ G3 H3 ((m1.trans m2).trans m3) (.bl _))
theorem td_pe {e : Expr} {f : En → Option PyData} (h : PT X e (tB (tD f))) : PT X e (tT (fT f)) := pt_of h fun _ _ _ _ ok h => et_B (ed_of ok (fT_some h))

/-! ### arguments, displays -/
def aN : En → Option (List PyData) := fun _ => some []
def aC (f : En → Option PyData) (r : En → Option (List PyData)) : En → Option (List PyData) := fun env => (f env).bind fun x => (r env).map fun xs => x :: xs
theorem da_nil : PA X [] (tDs aN) := pa_of pa_nil fun G σ env d ok h H s Q q => by
  obtain rfl : [] = d := Option.some.inj h
  exact q [] G H (.refl s) .nil
theorem da_cons (ha : PE X e (tD fa)) (hr : PA X es (tDs fs)) (hs : starEach (e :: es) X.env = (false, eval e X.env) :: starEach es X.env := by rfl) : PA X (e :: es) (tDs (aC fa fs)) :=
  pa_of (pa_cons ha hr hs) fun G σ env d ok h H s Q q => by
    obtain ⟨x, h1, h⟩ := Option.bind_eq_some_iff.mp h
    obtain ⟨xs, h2, h⟩ := Option.map_eq_some_iff.mp h
    subst h
    exact ⟨G, env, x, s, ok, h1, fun v1 G1 H1 m1 d1 => ⟨G1, env, xs, m1.s, ok.mono m1.g, h2, fun vs G2 H2 m2 d2 => q (v1 :: vs) G2 H2 (m1.trans m2) (.cons (d1.mono m2.g) d2)⟩⟩
/-- *x among them -/
def items : PyData → Option (List PyData)
  | .list ds => some ds
  | .tuple ds => some ds
  | _ => none
def aS (f : En → Option PyData) (r : En → Option (List PyData)) : En → Option (List PyData) := fun env => ((f env).bind items).bind fun x => (r env).map fun xs => x ++ xs
theorem Da.items {K : PySem.W.Frag} {G H : Hp} {v : V} {d : PyData} {ds : List PyData} (h : Da G v d) (s : Same G H) (e : items d = some ds) : ∃ p xs, v = .ref p ∧ (SqL K H p xs ∨ SqT K H p xs) ∧ DaAll G xs ds := by
  cases h with
  | lst ha r =>
    obtain rfl := Option.some.inj e
    exact ⟨_, _, rfl, .inl (SqL.of (s _ _ ha)), r⟩
  | tup ha r =>
    obtain rfl := Option.some.inj e
    exact ⟨_, _, rfl, .inr (SqT.of (s _ _ ha)), r⟩
  | _ => cases e
theorem da_star {p : Pos} (ha : PE X e (tD fa)) (hr : PA X es (tDs fs)) (hs : starEach (.Starred e p :: es) X.env = (true, eval e X.env) :: starEach es X.env := by rfl) : PA X (.Starred e p :: es) (tDs (aS fa fs)) :=
  pa_of (StX.pa_star ha hr hs) fun G σ env d ok h H s Q q => by
    obtain ⟨x, h0, h⟩ := Option.bind_eq_some_iff.mp h
    obtain ⟨y, h1, h0⟩ := Option.bind_eq_some_iff.mp h0
    obtain ⟨xs, h2, h⟩ := Option.map_eq_some_iff.mp h
    subst h
    refine ⟨G, env, y, s, ok, h1, fun v1 G1 H1 m1 d1 => ?_⟩
    obtain ⟨p, ys, rfl, hq, r⟩ := d1.items (K := X.K) m1.s h0
    exact ⟨p, ys, rfl, hq.symm, ⟨G1, env, xs, m1.s, ok.mono m1.g, h2, fun vs G2 H2 m2 d2 => q (ys ++ vs) G2 H2 (m1.trans m2) ((r.mono m2.g).append d2)⟩⟩
/-- the size that a display may have -/
def cap (ds : List PyData) : Option (List PyData) := if ds.length ≤ 100000 then some ds else none
theorem cap_some {ds es : List PyData} (h : cap ds = some es) : ds = es ∧ ds.length ≤ 100000 := by
  unfold cap at h
  split at h
  · exact ⟨Option.some.inj h, by assumption⟩
  · cases h
theorem size_ok {n : Nat} (h : n ≤ 100000) : n ≤ sizeLine := Nat.le_trans h (by decide)
theorem size_lt {n : Nat} (h : n < 100000) : n < sizeLine := Nat.lt_of_lt_of_le h (by decide)
def eTup (f : En → Option (List PyData)) : En → Option PyData := fun env => ((f env).bind cap).map .tuple
def eLst (f : En → Option (List PyData)) : En → Option PyData := fun env => ((f env).bind cap).map .list
theorem Mv.tup {G H : Hp} {p : Addr} {xs : List V} {ds : List PyData} (s : Same G H) (h : H p = none) (r : DaAll G xs ds) : Da (upd G p (.tup xs)) (.ref p) (.tuple ds) := .tup upd_same (r.mono (same_new (s.free h)))
theorem Mv.lst {G H : Hp} {p : Addr} {xs : List V} {ds : List PyData} (s : Same G H) (h : H p = none) (r : DaAll G xs ds) : Da (upd G p (.lst xs)) (.ref p) (.list ds) := .lst upd_same (r.mono (same_new (s.free h)))
theorem pd_tup {x1} (h : PA X es (tDs fs)) : PE X (.Tuple es x1 pos) (tD (eTup fs)) := pd_of (pe_tup h) fun G σ env d ok h H s Q q => by
  obtain ⟨xs, h0, rfl⟩ := Option.map_eq_some_iff.mp h
  obtain ⟨ys, h1, h2⟩ := Option.bind_eq_some_iff.mp h0
  obtain ⟨rfl, hl⟩ := cap_some h2
  exact ⟨G, env, _, s, ok, h1, fun vs G1 H1 m1 d1 => ⟨size_ok (by rw [d1.length]; exact hl), fun p hp => q (.ref p) _ _ (m1.trans (.new m1.s hp)) (Mv.tup m1.s hp d1)⟩⟩
theorem pd_lst (h : PA X es (tDs fs)) : PE X (.List es pos) (tD (eLst fs)) := pd_of (pe_lst h) fun G σ env d ok h H s Q q => by
  obtain ⟨xs, h0, rfl⟩ := Option.map_eq_some_iff.mp h
  obtain ⟨ys, h1, h2⟩ := Option.bind_eq_some_iff.mp h0
  obtain ⟨rfl, hl⟩ := cap_some h2
  exact ⟨G, env, _, s, ok, h1, fun vs G1 H1 m1 d1 => ⟨size_ok (by rw [d1.length]; exact hl), fun p hp => q (.ref p) _ _ (m1.trans (.new m1.s hp)) (Mv.lst m1.s hp d1)⟩⟩
end
end Sb
end
section
set_option Elab.async false
set_option linter.all false
set_option maxRecDepth 100000
set_option maxHeartbeats 2000000
/-! Sx2: operators, subscripts, slices, built-in calls, by data. -/
namespace Sb
open PySem PySem.Spec L2
open PyProof.Rows hiding St

/-! ### operators -/
def pyAdd : PyData → PyData → Option PyData
  | .int a, .int b => some (.int (a + b))
  | .list a, .list b => if a.length + b.length ≤ 100000 then some (.list (a ++ b)) else none
  | .tuple a, .tuple b => if a.length + b.length ≤ 100000 then some (.tuple (a ++ b)) else none
  | _, _ => none
def rAddA (K : PySem.W.Frag) : R2 := fun x y H Q => rI0 (fun i j => .int (i + j)) x y H Q ∨ (rCat x y H Q ∨ rCatA K x y H Q)
theorem op_addA {X : Cx} : OpR X (binaryOp .Add) (rAddA X.K) := op_add.or (op_cat.or op_catA)
theorem rd_add {K : PySem.W.Frag} : RD (rAddA K) pyAdd := by
  intro G H x y dx dy d s hx hy h Q q
  cases hx <;> cases hy <;> first | (simp [pyAdd] at h; done) | skip
  · rename_i i j
    simp only [pyAdd, Option.some.injEq] at h
    subst h
    exact .inl ⟨i, j, rfl, rfl, q _ G H (.refl s) (.int _)⟩
  · rename_i a xs ds ha ra b ys es hb rb
    simp only [pyAdd] at h
    split at h
    · rename_i hl
      cases h
      refine .inr (.inl ⟨a, b, xs, ys, rfl, rfl, s _ _ ha, s _ _ hb, size_ok (by rw [ra.length, rb.length]; exact hl), fun p hp => q _ _ _ (.new s hp) (Mv.lst s hp (ra.append rb))⟩)
    · cases h
  · rename_i a xs ds ha ra b ys es hb rb
    simp only [pyAdd] at h
    split at h
    · rename_i hl
      cases h
      refine .inr (.inr ⟨a, b, xs, ys, rfl, rfl, SqT.of (s _ _ ha), SqT.of (s _ _ hb), size_ok (by rw [ra.length, rb.length]; exact hl), fun e => ?_, fun _ e => ?_, fun _ _ p hp => q _ _ _ (.new s hp) (Mv.tup s hp (ra.append rb))⟩)
      · subst e
        cases ra
        exact q _ G H (.refl s) (.tup hb rb)
      · subst e
        cases rb
        rw [List.append_nil] at q
        exact q _ G H (.refl s) (.tup ha ra)
    · cases h
def pySub : PyData → PyData → Option PyData
  | .int a, .int b => some (.int (a - b))
  | _, _ => none
theorem rd_sub : RD (rI0 fun i j => .int (i - j)) pySub := by
  intro G H x y dx dy d s hx hy h Q q
  cases hx <;> cases hy <;> first | (simp [pySub] at h; done) | skip
  rename_i i j
  simp only [pySub, Option.some.injEq] at h
  subst h
  exact ⟨i, j, rfl, rfl, q _ G H (.refl s) (.int _)⟩
def pyPow : PyData → PyData → Option PyData
  | .int a, .int b => if 0 ≤ b ∧ b ≤ 1000000 ∧ a.natAbs < 2 ^ 64 then some (.int (a ^ b.toNat)) else none
  | _, _ => none
theorem rd_pow : RD (rI CPow fun i j => .int (i ^ j.toNat)) pyPow := by
  intro G H x y dx dy d s hx hy h Q q
  cases hx <;> cases hy <;> first | (simp [pyPow] at h; done) | skip
  rename_i i j
  simp only [pyPow] at h
  split at h
  · rename_i hc
    cases h
    exact ⟨i, j, rfl, rfl, hc, q _ G H (.refl s) (.int _)⟩
  · cases h
/-- [x] * n -/
def pyRep : PyData → PyData → Option PyData
  | .list [x], .int k => if 0 ≤ k ∧ k ≤ 1000 then some (.list (List.replicate k.toNat x)) else none
  | _, _ => none
theorem flat_one {α : Type} (x : α) : ∀ n : Nat, (List.replicate n [x]).flatten = List.replicate n x
  | 0 => rfl
  | n + 1 => by rw [List.replicate_succ, List.flatten_cons, flat_one x n, List.replicate_succ]; rfl
theorem rd_rep : RD rRep pyRep := by
  intro G H x y dx dy d s hx hy h Q q
  cases hx with
  | lst ha ra =>
    cases ra with
    | nil => simp [pyRep] at h
    | cons r1 r2 =>
      cases r2 with
      | cons r3 r4 => simp [pyRep] at h
      | nil =>
        cases hy <;> first | (simp [pyRep] at h; done) | skip
        rename_i k
        simp only [pyRep] at h
        split at h
        · rename_i hc
          cases h
          refine ⟨_, k, _, rfl, rfl, s _ _ ha, by omega, by omega, size_ok (by simp only [List.length_cons, List.length_nil]; omega), fun p hp => ?_⟩
          rw [flat_one]
          exact q _ _ _ (.new s hp) (Mv.lst s hp (DaAll.rep r1 k.toNat))
        · cases h
  | _ => simp [pyRep] at h
def pyCmp (f : Int → Int → Bool) : PyData → PyData → Option PyData
  | .int a, .int b => some (.bool (f a b))
  | _, _ => none
theorem rd_cmp {f : Int → Int → Bool} : RD (rI0 fun i j => .bl (f i j)) (pyCmp f) := by
  intro G H x y dx dy d s hx hy h Q q
  cases hx <;> cases hy <;> first | (simp [pyCmp] at h; done) | skip
  rename_i i j
  simp only [pyCmp, Option.some.injEq] at h
  subst h
  exact ⟨i, j, rfl, rfl, q _ G H (.refl s) (.bl _)⟩
abbrev pyLt := pyCmp fun i j => decide (i < j)
abbrev pyLe := pyCmp fun i j => decide (i ≤ j)
abbrev pyGt := pyCmp fun i j => decide (j < i)
abbrev pyGe := pyCmp fun i j => decide (j ≤ i)
def pyEq : PyData → PyData → Option PyData := fun a b => if SeqAt.shaped a = true ∧ SeqAt.shaped b = true then some (.bool (PyData.eqv a b)) else none
def pyNe : PyData → PyData → Option PyData := fun a b => if SeqAt.shaped a = true ∧ SeqAt.shaped b = true then some (.bool (!PyData.eqv a b)) else none
theorem rd_eq {K : PySem.W.Frag} : RD (rEqD K) pyEq := by
  intro G H x y dx dy d s hx hy h Q q
  unfold pyEq at h
  split at h
  · rename_i hc
    cases h
    exact ⟨dx, dy, (hx.mono s).toDp (SeqAt.canLay_of_shaped hc.1), (hy.mono s).toDp (SeqAt.canLay_of_shaped hc.2), hc.1, hc.2, q _ G H (.refl s) (.bl _)⟩
  · cases h
theorem rd_ne {K : PySem.W.Frag} : RD (rNeD K) pyNe := by
  intro G H x y dx dy d s hx hy h Q q
  unfold pyNe at h
  split at h
  · rename_i hc
    cases h
    exact ⟨dx, dy, (hx.mono s).toDp (SeqAt.canLay_of_shaped hc.1), (hy.mono s).toDp (SeqAt.canLay_of_shaped hc.2), hc.1, hc.2, q _ G H (.refl s) (.bl _)⟩
  · cases h
def pyIsN : PyData → PyData → Option PyData
  | a, .none => some (.bool (match a with | .none => true | _ => false))
  | _, _ => none
def pyNotN : PyData → PyData → Option PyData
  | a, .none => some (.bool (match a with | .none => false | _ => true))
  | _, _ => none
theorem rd_isN : RD (fun x y H Q => y = .non ∧ Q (.bl (decide (x = .non))) H) pyIsN := by
  intro G H x y dx dy d s hx hy h Q q
  cases hy <;> first | (simp [pyIsN] at h; done) | skip
  refine ⟨rfl, ?_⟩
  cases hx <;> (simp only [pyIsN, Option.some.injEq] at h; subst h; exact q _ G H (.refl s) (.bl _))
theorem rd_notN : RD (fun x y H Q => y = .non ∧ Q (.bl (!decide (x = .non))) H) pyNotN := by
  intro G H x y dx dy d s hx hy h Q q
  cases hy <;> first | (simp [pyNotN] at h; done) | skip
  refine ⟨rfl, ?_⟩
  cases hx <;> (simp only [pyNotN, Option.some.injEq] at h; subst h; exact q _ G H (.refl s) (.bl _))
def pyNotB : PyData → PyData → Option PyData
  | .bool a, .bool b => some (.bool (!decide (a = b)))
  | _, _ => none
theorem rd_notB : RD rNotB pyNotB := by
  intro G H x y dx dy d s hx hy h Q q
  cases hx <;> cases hy <;> first | (simp [pyNotB] at h; done) | skip
  simp only [pyNotB, Option.some.injEq] at h
  subst h
  exact ⟨_, _, rfl, rfl, q _ G H (.refl s) (.bl _)⟩
/-- x in a list or tuple of flat things -/
def inD (x : PyData) (ds : List PyData) : Bool := ds.any fun y => PyData.eqv y x
theorem Da.flat {G : Hp} {v : V} {d : PyData} (h : Da G v d) (s : scd d = true) : flatV v = true := by
  cases h <;> first | rfl | cases s
theorem DaAll.flat {G : Hp} : ∀ {v : List V} {d : List PyData}, DaAll G v d → d.all scd = true → v.all flatV = true
  | _, _, .nil, _ => rfl
  | _, _, .cons h r, s => by
    rw [List.all_cons, Bool.and_eq_true] at s ⊢
    exact ⟨h.flat s.1, r.flat s.2⟩
theorem Da.eqv {G G' : Hp} {v w : V} {d e : PyData} (h : Da G v d) (h' : Da G' w e) (s : scd d = true) (s' : scd e = true) : eqV v w = PyData.eqv d e := by
  cases h <;> first | (cases s; done) | skip
  all_goals (cases h' <;> first | (cases s'; done) | (simp [eqV, PyData.eqv]; done))
theorem DaAll.inV {G : Hp} {x : V} {e : PyData} (hx : Da G x e) (sx : scd e = true) : ∀ {v : List V} {d : List PyData}, DaAll G v d → d.all scd = true → L2.inV x v = inD e d
  | _, _, .nil, _ => rfl
  | _, _, .cons h r, s => by
    rw [List.all_cons, Bool.and_eq_true] at s
    show (eqV _ x || L2.inV x _) = (PyData.eqv _ e || inD e _)
    rw [h.eqv hx s.1 sx, r.inV hx sx s.2]
def pyIn (neg : Bool) : PyData → PyData → Option PyData := fun x y => (items y).bind fun ds => if scd x = true ∧ ds.all scd = true then some (.bool (if neg then !inD x ds else inD x ds)) else none
theorem rd_in {K : PySem.W.Frag} {neg : Bool} : RD (rIn K neg) (pyIn neg) := by
  intro G H x y dx dy d s hx hy h Q q
  obtain ⟨ds, h1, h2⟩ := Option.bind_eq_some_iff.mp h
  split at h2
  · rename_i hc
    cases h2
    obtain ⟨p, xs, rfl, hq, r⟩ := hy.items (K := K) s h1
    refine ⟨p, xs, rfl, hq, hx.flat hc.1, r.flat hc.2, ?_⟩
    rw [r.inV hx hc.1 hc.2]
    exact q _ G H (.refl s) (.bl _)
  · cases h2

/-! ### subscripts -/
theorem ixN_len {α : Type} {xs : List α} {i : Int} {v : α} (h : atI xs i = some v) : ∃ j, ixN xs.length i = some j ∧ xs[j]? = some v := Option.bind_eq_some_iff.mp h
theorem DaAll.atI {G : Hp} {v : List V} {d : List PyData} {i : Int} {x : PyData} (r : DaAll G v d) (h : L2.atI d i = some x) : ∃ u, L2.atI v i = some u ∧ Da G u x := by
  obtain ⟨j, h1, h2⟩ := ixN_len h
  obtain ⟨u, h3, h4⟩ := r.get h2
  refine ⟨u, ?_, h4⟩
  unfold L2.atI
  rw [r.length, h1]
  exact h3
def pyIx : PyData → PyData → Option PyData := fun x y => (items x).bind fun ds => match y with
  | .int i => atI ds i
  | _ => none
def rIxA (K : PySem.W.Frag) : R2 := fun x y H Q => rIxL K x y H Q ∨ rIxT K x y H Q
theorem ix_any {X : Cx} : IxR X (rIxA X.K) := ix_list.or ix_tup
theorem rd_ix {K : PySem.W.Frag} : RD (rIxA K) pyIx := by
  intro G H x y dx dy d s hx hy h Q q
  obtain ⟨ds, h1, h2⟩ := Option.bind_eq_some_iff.mp h
  cases hy <;> first | (simp at h2; done) | skip
  rename_i i
  obtain ⟨p, xs, rfl, hq, r⟩ := hx.items (K := K) s h1
  obtain ⟨u, h3, h4⟩ := r.atI h2
  rcases hq with hq | hq
  · exact .inl ⟨p, xs, i, u, rfl, rfl, hq, h3, q u G H (.refl s) h4⟩
  · exact .inr ⟨p, xs, i, u, rfl, rfl, hq, h3, q u G H (.refl s) h4⟩

/-! ### slices -/
def cutL {α : Type} (xs : List α) (lo hi : Option Int) : List α := (xs.drop (HT.sIx xs.length 0 lo)).take (HT.sIx xs.length xs.length hi - HT.sIx xs.length 0 lo)
theorem DaAll.cut {G : Hp} {v : List V} {d : List PyData} (lo hi : Option Int) (r : DaAll G v d) : DaAll G (cutV v lo hi) (cutL d lo hi) := by
  unfold cutV cutL
  rw [r.length]
  exact (r.drop _).take _
def pySl (lo hi : Option Int) : PyData → Option PyData
  | .list ds => some (.list (cutL ds lo hi))
  | .tuple ds => some (.tuple (cutL ds lo hi))
  | _ => none
def rSlAny (K : PySem.W.Frag) : V → Option Int → Option Int → Hp → VK → Prop := fun x lo hi H Q => rSlL K x lo hi H Q ∨ rSlA K x lo hi H Q
theorem sl_any {X : Cx} : SlR X (rSlAny X.K) := sl_list.or sl_tupA
theorem cutL_all {α : Type} {xs : List α} {lo hi : Option Int} (h : HT.sIx xs.length 0 lo = 0 ∧ HT.sIx xs.length xs.length hi = xs.length) : cutL xs lo hi = xs := by
  unfold cutL
  rw [h.1, h.2]
  simp
section
variable {X : Cx} {a b e : Expr} {es : List Expr} {fa fb : En → Option PyData} {fs : En → Option (List PyData)} {pos p : Pos}
/-- a part of a slice -/
def tO (f : En → Option (Option Int)) : TO := fun σ H Q => ∃ G env o, Same G H ∧ EnvOk G σ env ∧ f env = some o ∧ ∀ G' H', Mv G H G' H' → Q o H'
def oN : En → Option (Option Int) := fun _ => some none
def asI : PyData → Option Int
  | .int i => some i
  | _ => none
theorem asI_some {d : PyData} {i : Int} (h : asI d = some i) : d = .int i := by
  cases d <;> first | (cases h; rfl) | cases h
def oS (f : En → Option PyData) : En → Option (Option Int) := fun env => ((f env).bind asI).map some
theorem PO.weak {e : Option Expr} {t t' : TO} (h : PO X e t) (w : ∀ σ H Q, t' σ H Q → t σ H Q) : PO X e t' := ⟨fun pins s σ H Q I q => h.run pins s σ H Q I (w σ H Q q)⟩
theorem do_none : PO X none (tO oN) := PO.weak po_none fun σ H Q ⟨G, env, o, s, ok, h, q⟩ => by
  cases h
  exact q G H (.refl s)
theorem do_some (h : PE X e (tD fa)) : PO X (some e) (tO (oS fa)) := PO.weak (po_some h) fun σ H Q ⟨G, env, o, s, ok, h, q⟩ => by
  obtain ⟨i, h1, rfl⟩ := Option.map_eq_some_iff.mp h
  obtain ⟨d, h2, h3⟩ := Option.bind_eq_some_iff.mp h1
  rw [asI_some h3] at h2
  exact ⟨G, env, _, s, ok, h2, fun v G' H' m r => ⟨i, r.int', q G' H' m⟩⟩
def eSl (f : En → Option PyData) (lo hi : En → Option (Option Int)) : En → Option PyData := fun env => (f env).bind fun x => (lo env).bind fun l => (hi env).bind fun u => pySl l u x
theorem pd_slice {lo hi : Option Expr} {fl fh : En → Option (Option Int)} {p2 : Pos} (he : PE X e (tD fa)) (hl : PO X lo (tO fl)) (hu : PO X hi (tO fh)) : PE X (.Subscript e (.Slice lo hi none p2) pos) (tD (eSl fa fl fh)) :=
  pd_of (pe_slice sl_any he hl hu) fun G σ env d ok h H s Q q => by
    obtain ⟨x, h1, h⟩ := Option.bind_eq_some_iff.mp h
    obtain ⟨l, h2, h⟩ := Option.bind_eq_some_iff.mp h
    obtain ⟨u, h3, h⟩ := Option.bind_eq_some_iff.mp h
    refine ⟨G, env, x, s, ok, h1, fun v1 G1 H1 m1 d1 => ⟨G1, env, l, m1.s, ok.mono m1.g, h2, fun G2 H2 m2 => ⟨G2, env, u, m2.s, (ok.mono m1.g).mono m2.g, h3, fun G3 H3 m3 => ?_⟩⟩⟩
    have d3 := (d1.mono m2.g).mono m3.g
    have m := (m1.trans m2).trans m3
    cases d3 with
    | @lst a xs ds ha ra =>
      cases h
      exact .inl ⟨a, xs, rfl, SqL.of (m3.s _ _ ha), fun p hp => q _ _ _ (m.trans (.new m3.s hp)) (Mv.lst m3.s hp (ra.cut l u))⟩
    | @tup a xs ds ha ra =>
      cases h
      refine .inr ⟨a, xs, rfl, SqT.of (m3.s _ _ ha), fun hw => ?_, fun _ p hp => q _ _ _ (m.trans (.new m3.s hp)) (Mv.tup m3.s hp (ra.cut l u))⟩
      rw [ra.length] at hw
      rw [cutL_all hw] at q
      exact q _ _ _ m (.tup ha ra)
    | _ => cases h

/-! ### built-in calls -/
def RDs (r : List V → Hp → VK → Prop) (g : List PyData → Option PyData) : Prop := ∀ (G H : Hp) (vs : List V) (ds : List PyData) (d : PyData), Same G H → DaAll G vs ds → g ds = some d → ∀ Q : VK, (∀ v G' H', Mv G H G' H' → Da G' v d → Q v H') → r vs H Q
def eF (g : List PyData → Option PyData) (f : En → Option (List PyData)) : En → Option PyData := fun env => (f env).bind g
theorem cb_ed {r : List V → Hp → VK → Prop} {g : List PyData → Option PyData} {G : Hp} {σ : St} {env : En} {d : PyData} (hr : RDs r g) (ok : EnvOk G σ env) (h : eF g fs env = some d) : Ed (tCB r (tDs fs)) σ G d := fun H s Q q => by
  obtain ⟨ds, h1, h2⟩ := Option.bind_eq_some_iff.mp h
  exact ⟨G, env, ds, s, ok, h1, fun vs G1 H1 m1 d1 => hr G1 H1 vs ds d m1.s d1 h2 Q fun v G2 H2 m2 d2 => q v G2 H2 (m1.trans m2) d2⟩
theorem pd_callB {id : String} {x : Str} {r : List V → Hp → VK → Prop} {g : List PyData → Option PyData} (hc : CallR X (.builtin id) r) (hr : RDs r g) (hm : X.mg x = none) (hv : bootBuiltins x = some (.builtin id)) (ha : PA X (e :: es) (tDs fs)) (hg : Gl X x := by rfl)
    (hn : x ≠ "__name__" := by decide) (hdb : (x == ("__debug__" : Str)) = false := by decide) (he : starEach (e :: es) X.env = (false, eval e X.env) :: starEach es X.env := by rfl) (hpl : (backTo pos (starEach es X.env)).any (·.1) = false := by rfl) :
    PE X (.Call (.Name x p) (e :: es) [] pos) (tD (eF g fs)) := pd_of (pe_callB hc hg hm hv ha hn hdb he hpl) fun _ _ _ _ ok h => cb_ed hr ok h
theorem pd_callTy {T : String} {x : Str} {r : List V → Hp → VK → Prop} {g : List PyData → Option PyData} (hc : CallR X (.type T) r) (hr : RDs r g) (hm : X.mg x = none) (hv : bootBuiltins x = some (.type T)) (ha : PA X (e :: es) (tDs fs)) (hg : Gl X x := by rfl)
    (hn : x ≠ "__name__" := by decide) (hdb : (x == ("__debug__" : Str)) = false := by decide) (he : starEach (e :: es) X.env = (false, eval e X.env) :: starEach es X.env := by rfl) (hpl : (backTo pos (starEach es X.env)).any (·.1) = false := by rfl) :
    PE X (.Call (.Name x p) (e :: es) [] pos) (tD (eF g fs)) := pd_of (pe_callTy hc hg hm hv ha hn hdb he hpl) fun _ _ _ _ ok h => cb_ed hr ok h
end
theorem DaAll.one' {G : Hp} {vs : List V} {d : PyData} (h : DaAll G vs [d]) : ∃ v, vs = [v] ∧ Da G v d := by
  cases h with
  | cons h1 h2 => cases h2; exact ⟨_, rfl, h1⟩
theorem DaAll.two' {G : Hp} {vs : List V} {d e : PyData} (h : DaAll G vs [d, e]) : ∃ v w, vs = [v, w] ∧ Da G v d ∧ Da G w e := by
  cases h with
  | cons h1 h2 =>
    obtain ⟨w, rfl, h3⟩ := h2.one'
    exact ⟨_, _, rfl, h1, h3⟩
def pyLen : List PyData → Option PyData
  | [x] => (items x).map fun ds => .int (ds.length : Nat)
  | _ => none
theorem rd_len {K : PySem.W.Frag} : RDs (fun xs H Q => ∃ p ys, xs = [.ref p] ∧ (SqL K H p ys ∨ SqT K H p ys) ∧ Q (.int ys.length) H) pyLen := by
  intro G H vs ds d s r h Q q
  match ds, h with
  | [x], h =>
    obtain ⟨es, h1, rfl⟩ := Option.map_eq_some_iff.mp h
    obtain ⟨v, rfl, h2⟩ := r.one'
    obtain ⟨p, xs, rfl, hq, r2⟩ := h2.items (K := K) s h1
    exact ⟨p, xs, rfl, hq, q _ G H (.refl s) (by rw [r2.length]; exact .int _)⟩
def bools : List PyData → Option (List Bool)
  | [] => some []
  | .bool b :: r => (bools r).map fun l => b :: l
  | _ :: _ => none
theorem bools_some : ∀ {ds : List PyData} {bs : List Bool}, bools ds = some bs → ds = bs.map .bool
  | [], _, h => by cases h; rfl
  | .bool b :: r, _, h => by
    obtain ⟨l, h1, rfl⟩ := Option.map_eq_some_iff.mp h
    rw [bools_some h1] <;> rfl
  | .none :: _, _, h => by cases h
  | .int _ :: _, _, h => by cases h
  | .str _ :: _, _, h => by cases h
  | .list _ :: _, _, h => by cases h
  | .tuple _ :: _, _, h => by cases h
  | .dict _ :: _, _, h => by cases h
theorem bools_map (bs : List Bool) : bools (bs.map .bool) = some bs := by
  induction bs with
  | nil => rfl
  | cons b r ih => simp [bools, ih]
def intsD : List PyData → Option (List Int)
  | [] => some []
  | .int b :: r => (intsD r).map fun l => b :: l
  | _ :: _ => none
theorem intsD_some : ∀ {ds : List PyData} {bs : List Int}, intsD ds = some bs → ds = bs.map .int
  | [], _, h => by cases h; rfl
  | .int b :: r, _, h => by
    obtain ⟨l, h1, rfl⟩ := Option.map_eq_some_iff.mp h
    rw [intsD_some h1] <;> rfl
  | .none :: _, _, h => by cases h
  | .bool _ :: _, _, h => by cases h
  | .str _ :: _, _, h => by cases h
  | .list _ :: _, _, h => by cases h
  | .tuple _ :: _, _, h => by cases h
  | .dict _ :: _, _, h => by cases h
theorem intsD_map (bs : List Int) : intsD (bs.map .int) = some bs := by
  induction bs with
  | nil => rfl
  | cons b r ih => simp [intsD, ih]
def lst? : PyData → Option (List PyData)
  | .list ds => some ds
  | _ => none
theorem lst?_some {d : PyData} {ds : List PyData} (h : lst? d = some ds) : d = .list ds := by
  cases d <;> first | (cases h; rfl) | cases h
def one? : List PyData → Option PyData
  | [x] => some x
  | _ => none
theorem one?_some {ds : List PyData} {x : PyData} (h : one? ds = some x) : ds = [x] := by
  match ds, h with
  | [y], h => cases h; rfl
def pyAll : List PyData → Option PyData := fun ds => (((one? ds).bind lst?).bind bools).map fun bs => .bool (bs.all id)
def pyAny : List PyData → Option PyData := fun ds => (((one? ds).bind lst?).bind bools).map fun bs => .bool (bs.any id)
theorem one_bools {G H : Hp} {vs : List V} {ds : List PyData} {bs : List Bool} {K : PySem.W.Frag} (s : Same G H) (r : DaAll G vs ds) (h : (((one? ds).bind lst?).bind bools) = some bs) : ∃ a, vs = [.ref a] ∧ SqL K H a (bs.map V.bl) := by
  obtain ⟨es, h1, h2⟩ := Option.bind_eq_some_iff.mp h
  obtain ⟨x, h3, h4⟩ := Option.bind_eq_some_iff.mp h1
  rw [one?_some h3] at r
  obtain ⟨v, rfl, h5⟩ := r.one'
  rw [lst?_some h4, bools_some h2] at h5
  cases h5 with
  | lst ha ra => exact ⟨_, rfl, SqL.of (s _ _ (by rw [← ra.bls]; exact ha))⟩
theorem rd_all {K : PySem.W.Frag} : RDs (rAll K) pyAll := by
  intro G H vs ds d s r h Q q
  obtain ⟨bs, h1, rfl⟩ := Option.map_eq_some_iff.mp h
  obtain ⟨a, rfl, hq⟩ := one_bools (K := K) s r h1
  exact ⟨a, bs, rfl, hq, q _ G H (.refl s) (.bl _)⟩
theorem rd_any {K : PySem.W.Frag} : RDs (rAny K) pyAny := by
  intro G H vs ds d s r h Q q
  obtain ⟨bs, h1, rfl⟩ := Option.map_eq_some_iff.mp h
  obtain ⟨a, rfl, hq⟩ := one_bools (K := K) s r h1
  exact ⟨a, bs, rfl, hq, q _ G H (.refl s) (.bl _)⟩
theorem one_ints {G H : Hp} {vs : List V} {ds : List PyData} {bs : List Int} {K : PySem.W.Frag} (s : Same G H) (r : DaAll G vs ds) (h : (((one? ds).bind lst?).bind intsD) = some bs) : ∃ a, vs = [.ref a] ∧ SqL K H a (bs.map V.int) := by
  obtain ⟨es, h1, h2⟩ := Option.bind_eq_some_iff.mp h
  obtain ⟨x, h3, h4⟩ := Option.bind_eq_some_iff.mp h1
  rw [one?_some h3] at r
  obtain ⟨v, rfl, h5⟩ := r.one'
  rw [lst?_some h4, intsD_some h2] at h5
  cases h5 with
  | lst ha ra => exact ⟨_, rfl, SqL.of (s _ _ (by rw [← ra.ints]; exact ha))⟩
/-- the greatest of a list -/
def maxL : List Int → Option Int
  | [] => none
  | x :: r => some (r.foldl max x)
theorem foldl_max_ge : ∀ (r : List Int) (x : Int), x ≤ r.foldl max x ∧ ∀ y ∈ r, y ≤ r.foldl max x
  | [], x => ⟨Int.le_refl _, fun _ h => nomatch h⟩
  | z :: r, x => by
    obtain ⟨h1, h2⟩ := foldl_max_ge r (max x z)
    refine ⟨Int.le_trans (Int.le_max_left x z) h1, fun y hy => ?_⟩
    rcases List.mem_cons.mp hy with rfl | hy
    · exact Int.le_trans (Int.le_max_right x y) h1
    · exact h2 y hy
theorem foldl_max_mem : ∀ (r : List Int) (x : Int), r.foldl max x = x ∨ r.foldl max x ∈ r
  | [], x => .inl rfl
  | z :: r, x => by
    rcases foldl_max_mem r (max x z) with h | h
    · rw [List.foldl_cons, h]
      by_cases hz : z ≤ x
      · exact .inl (Int.max_eq_left hz)
      · exact .inr (by rw [Int.max_eq_right (by omega)]; exact List.mem_cons_self)
    · exact .inr (List.mem_cons_of_mem _ h)
theorem maxL_is {ns : List Int} {m k : Int} (h : maxL ns = some k) (h1 : m ∈ ns) (h2 : ∀ y ∈ ns, y ≤ m) : m = k := by
  cases ns with
  | nil => cases h
  | cons x r =>
    obtain rfl : r.foldl max x = k := Option.some.inj h
    obtain ⟨a, b⟩ := foldl_max_ge r x
    have c : r.foldl max x ≤ m := by
      rcases foldl_max_mem r x with q | q
      · rw [q]; exact h2 x List.mem_cons_self
      · exact h2 _ (List.mem_cons_of_mem _ q)
    have d : m ≤ r.foldl max x := by
      rcases List.mem_cons.mp h1 with e | e
      · rw [e]; exact a
      · exact b m e
    omega
def pyMax1 : List PyData → Option PyData := fun ds => ((((one? ds).bind lst?).bind intsD).bind maxL).map .int
theorem rd_max1 {K : PySem.W.Frag} : RDs (rMax K) pyMax1 := by
  intro G H vs ds d s r h Q q
  obtain ⟨k, h1, rfl⟩ := Option.map_eq_some_iff.mp h
  obtain ⟨ns, h2, h3⟩ := Option.bind_eq_some_iff.mp h1
  obtain ⟨a, rfl, hq⟩ := one_ints (K := K) s r h2
  refine ⟨a, ns, rfl, hq, ?_, fun m hm hle => ?_⟩
  · cases ns with
    | nil => cases h3
    | cons x r => simp
  · rw [maxL_is h3 hm hle]
    exact q _ G H (.refl s) (.int _)
/-- the least of a list -/
def minL : List Int → Option Int
  | [] => none
  | x :: r => some (r.foldl min x)
theorem foldl_min_le : ∀ (r : List Int) (x : Int), r.foldl min x ≤ x ∧ ∀ y ∈ r, r.foldl min x ≤ y
  | [], x => ⟨Int.le_refl _, fun _ h => nomatch h⟩
  | z :: r, x => by
    obtain ⟨h1, h2⟩ := foldl_min_le r (min x z)
    refine ⟨Int.le_trans h1 (Int.min_le_left x z), fun y hy => ?_⟩
    rcases List.mem_cons.mp hy with rfl | hy
    · exact Int.le_trans h1 (Int.min_le_right x y)
    · exact h2 y hy
theorem foldl_min_mem : ∀ (r : List Int) (x : Int), r.foldl min x = x ∨ r.foldl min x ∈ r
  | [], x => .inl rfl
  | z :: r, x => by
    rcases foldl_min_mem r (min x z) with h | h
    · rw [List.foldl_cons, h]
      by_cases hz : x ≤ z
      · exact .inl (Int.min_eq_left hz)
      · exact .inr (by rw [Int.min_eq_right (by omega)]; exact List.mem_cons_self)
    · exact .inr (List.mem_cons_of_mem _ h)
theorem minL_is {ns : List Int} {m k : Int} (h : minL ns = some k) (h1 : m ∈ ns) (h2 : ∀ y ∈ ns, m ≤ y) : m = k := by
  cases ns with
  | nil => cases h
  | cons x r =>
    obtain rfl : r.foldl min x = k := Option.some.inj h
    obtain ⟨a, b⟩ := foldl_min_le r x
    have c : m ≤ r.foldl min x := by
      rcases foldl_min_mem r x with q | q
      · rw [q]; exact h2 x List.mem_cons_self
      · exact h2 _ (List.mem_cons_of_mem _ q)
    have d : r.foldl min x ≤ m := by
      rcases List.mem_cons.mp h1 with e | e
      · rw [e]; exact a
      · exact b m e
    omega
def pyMin1 : List PyData → Option PyData := fun ds => ((((one? ds).bind lst?).bind intsD).bind minL).map .int
theorem rd_min1 {K : PySem.W.Frag} : RDs (rMin K) pyMin1 := by
  intro G H vs ds d s r h Q q
  obtain ⟨k, h1, rfl⟩ := Option.map_eq_some_iff.mp h
  obtain ⟨ns, h2, h3⟩ := Option.bind_eq_some_iff.mp h1
  obtain ⟨a, rfl, hq⟩ := one_ints (K := K) s r h2
  refine ⟨a, ns, rfl, hq, ?_, fun m hm hle => ?_⟩
  · cases ns with
    | nil => cases h3
    | cons x r => simp
  · rw [minL_is h3 hm hle]
    exact q _ G H (.refl s) (.int _)
def pyMax2 : List PyData → Option PyData
  | [.int i, .int j] => some (.int (if j > i then j else i))
  | _ => none
def pyMin2 : List PyData → Option PyData
  | [.int i, .int j] => some (.int (if j < i then j else i))
  | _ => none
theorem rd_max2 : RDs (fun xs H Q => ∃ i j, xs = [.int i, .int j] ∧ Q (.int (if j > i then j else i)) H) pyMax2 := by
  intro G H vs ds d s r h Q q
  unfold pyMax2 at h
  split at h
  · rename_i i j
    cases h
    obtain ⟨v, w, rfl, h1, h2⟩ := r.two'
    rw [h1.int', h2.int']
    exact ⟨i, j, rfl, q _ G H (.refl s) (.int _)⟩
  · cases h
theorem rd_min2 : RDs (fun xs H Q => ∃ i j, xs = [.int i, .int j] ∧ Q (.int (if j < i then j else i)) H) pyMin2 := by
  intro G H vs ds d s r h Q q
  unfold pyMin2 at h
  split at h
  · rename_i i j
    cases h
    obtain ⟨v, w, rfl, h1, h2⟩ := r.two'
    rw [h1.int', h2.int']
    exact ⟨i, j, rfl, q _ G H (.refl s) (.int _)⟩
  · cases h
def sortI (ns : List Int) : List Int := ns.mergeSort (fun a b => decide (a ≤ b))
theorem sortI_perm (ns : List Int) : (sortI ns).Perm ns := List.mergeSort_perm ns _
theorem sortI_le (ns : List Int) : (sortI ns).Pairwise (· ≤ ·) := by
  have h := List.pairwise_mergeSort (le := fun a b : Int => decide (a ≤ b)) (fun a b c h1 h2 => by simp at *; omega) (fun a b => by simp; omega) ns
  exact h.imp fun h => by simpa using h
theorem sort_same {a b : List Int} (h : a.Perm b) (ha : a.Pairwise (· ≤ ·)) (hb : b.Pairwise (· ≤ ·)) : a = b :=
  List.Perm.eq_of_pairwise (fun x y _ _ h1 h2 => Int.le_antisymm h1 h2) ha hb h
theorem sortI_is {ns ms : List Int} (h : ms.Perm ns) (hs : ms.Pairwise (· ≤ ·)) : ms = sortI ns := sort_same (h.trans (sortI_perm ns).symm) hs (sortI_le ns)
def pySorted : List PyData → Option PyData := fun ds => (((one? ds).bind lst?).bind intsD).bind fun ns => if ns.length < 64 then some (.list ((sortI ns).map .int)) else none
theorem rd_sorted {K : PySem.W.Frag} : RDs (rSorted K) pySorted := by
  intro G H vs ds d s r h Q q
  obtain ⟨ns, h1, h2⟩ := Option.bind_eq_some_iff.mp h
  split at h2
  · rename_i hl
    cases h2
    obtain ⟨a, rfl, hq⟩ := one_ints (K := K) s r h1
    refine ⟨a, ns, rfl, hq, hl, fun ns' p hp hs hn => ?_⟩
    rw [sortI_is hp hs]
    exact q _ _ _ (.new s hn) (Mv.lst s hn (DaAll.of_ints _))
  · cases h2
def pyList : List PyData → Option PyData := fun ds => ((one? ds).bind items).map .list
def pyTuple : List PyData → Option PyData := fun ds => ((one? ds).bind items).map .tuple
theorem rd_list {K : PySem.W.Frag} : RDs (fun xs H Q => ∃ p ys, xs = [.ref p] ∧ (SqL K H p ys ∨ SqT K H p ys) ∧ ∀ l, H l = none → Q (.ref l) (upd H l (.lst ys))) pyList := by
  intro G H vs ds d s r h Q q
  obtain ⟨es, h1, rfl⟩ := Option.map_eq_some_iff.mp h
  obtain ⟨x, h2, h3⟩ := Option.bind_eq_some_iff.mp h1
  rw [one?_some h2] at r
  obtain ⟨v, rfl, h4⟩ := r.one'
  obtain ⟨p, xs, rfl, hq, r2⟩ := h4.items (K := K) s h3
  exact ⟨p, xs, rfl, hq, fun l hl => q _ _ _ (.new s hl) (Mv.lst s hl r2)⟩
theorem rd_tuple {K : PySem.W.Frag} : RDs (fun xs H Q => ∃ p ys, xs = [.ref p] ∧ ((SqL K H p ys ∧ ∀ l, H l = none → Q (.ref l) (upd H l (.tup ys))) ∨ (SqT K H p ys ∧ Q (.ref p) H))) pyTuple := by
  intro G H vs ds d s r h Q q
  obtain ⟨es, h1, rfl⟩ := Option.map_eq_some_iff.mp h
  obtain ⟨x, h2, h3⟩ := Option.bind_eq_some_iff.mp h1
  rw [one?_some h2] at r
  obtain ⟨v, rfl, h4⟩ := r.one'
  cases h4 with
  | lst ha ra =>
    cases h3
    exact ⟨_, _, rfl, .inl ⟨SqL.of (s _ _ ha), fun l hl => q _ _ _ (.new s hl) (Mv.tup s hl ra)⟩⟩
  | tup ha ra =>
    cases h3
    exact ⟨_, _, rfl, .inr ⟨SqT.of (s _ _ ha), q _ G H (.refl s) (.tup ha ra)⟩⟩
  | _ => cases h3
/-- isinstance(x, T), T a built-in class -/
def tyN : PyData → String
  | .none => "NoneType"
  | .bool _ => "bool"
  | .int _ => "int"
  | .str _ => "str"
  | .list _ => "list"
  | .tuple _ => "tuple"
  | .dict _ => "dict"
theorem Da.tyx {G H : Hp} {K : PySem.W.Frag} {v : V} {d : PyData} (h : Da G v d) (s : Same G H) : TyX K H v (.type (tyN d)) := by
  cases h with
  | non => exact .base .non
  | bl b => exact .base (.bl b)
  | int i => exact .base (.int i)
  | str x => exact .base (.str x)
  | lst ha _ => exact .base (.lst (s _ _ ha))
  | tup ha _ => exact .base (.tup (s _ _ ha))
  | dic ha _ => exact .base (.dK (s _ _ ha))
def isT (T : String) (d : PyData) : Option Bool := kitB (tyN d) T
section
variable {X : Cx} {e : Expr} {fa : En → Option PyData} {pos p p2 : Pos}
theorem pd_isi {T : String} {x : Str} (he : PE X e (tD fa)) (hm : X.mg "isinstance" = none) (hm2 : X.mg x = none) (hv : bootBuiltins x = some (.type T)) (hg : Gl X "isinstance" := by rfl) (hg2 : Gl X x := by rfl) (hn : x ≠ "__name__" := by decide) (hd : (x == ("__debug__" : Str)) = false := by decide)
    (hs : starEach [.Name x p2] X.env = (false, eval (.Name x p2) X.env) :: starEach [] X.env := by rfl)
    (hs2 : starEach [e, .Name x p2] X.env = (false, eval e X.env) :: starEach [.Name x p2] X.env := by rfl) (hpl : (backTo pos (starEach [.Name x p2] X.env)).any (·.1) = false := by rfl) :
    PE X (.Call (.Name "isinstance" p) [e, .Name x p2] [] pos) (tD (fun env => ((fa env).bind (isT T)).map .bool)) :=
  pd_of (pe_callB call_isi hg hm boot_isinstance (pa_cons he (pa_cons (pe_bltn (v := .ty T) hg2 hm2 hv rfl hn hd) pa_nil hs) hs2) (by decide) (by decide) hs2 hpl) fun G σ env d ok h H s Q q => by
    obtain ⟨b, h1, rfl⟩ := Option.map_eq_some_iff.mp h
    obtain ⟨x, h2, h3⟩ := Option.bind_eq_some_iff.mp h1
    exact ⟨G, env, x, s, ok, h2, fun v G1 H1 m1 d1 => ⟨v, .ty T, .type (tyN x), .type T, b, rfl, .ty T, d1.tyx m1.s, kit_ty h3, q _ G1 H1 m1 (.bl _)⟩⟩
end
end Sb
end
section
set_option Elab.async false
set_option linter.all false
set_option maxRecDepth 100000
set_option maxHeartbeats 2000000
/-! Sx3: what is walked, comprehensions, by data. -/
namespace Sb
open PySem PySem.Spec L2
open PyProof.Rows hiding St

structure WalkD (J : It) (G : Hp) (ds : List PyData) : Prop where
  go : ∀ (i : Nat) (H : Hp), i < ds.length → Same G H → J.go i H
  stop : ∀ H : Hp, Same G H → J.stop ds.length H
  yld : ∀ (i : Nat) (H G1 : Hp) (x : V) (H' : Hp) (d : PyData), ds[i]? = some d → Same G G1 → Same G1 H → J.yld i H x H' → ∃ G', Mv G1 H G' H' ∧ Da G' x d
def tI (f : En → Option (List PyData)) : TI := fun σ H R => ∃ G env ds, Same G H ∧ EnvOk G σ env ∧ f env = some ds ∧ ∀ J G' H', Mv G H G' H' → WalkD J G' ds → R J H'
theorem PI.weak {X : Cx} {tg e : Expr} {t t' : TI} (h : PI X tg e t) (w : ∀ σ H R, t' σ H R → t σ H R) : PI X tg e t' := ⟨fun pins s σ H R I q => h.run pins s σ H R I (w σ H R q)⟩
theorem PI.or {X : Cx} {tg e : Expr} {t t' : TI} (h : PI X tg e t) (h' : PI X tg e t') : PI X tg e (fun σ H R => t σ H R ∨ t' σ H R) := ⟨fun pins s σ H R I q => q.elim (h.run pins s σ H R I) (h'.run pins s σ H R I)⟩
theorem walkD_of {J : It} {n : Nat} {G : Hp} {P : Hp → Prop} {Y : Nat → Hp → V → Hp → Prop} {ds : List PyData} (w : Walk J n P Y) (hn : n = ds.length) (hP : ∀ H, Same G H → P H)
    (hy : ∀ i H G1 x H' d, ds[i]? = some d → Same G G1 → Same G1 H → Y i H x H' → ∃ G', Mv G1 H G' H' ∧ Da G' x d) : WalkD J G ds := by
  subst hn
  exact ⟨fun i H hi s => w.goes i H hi (hP H s), fun H s => w.stops H (hP H s), fun i H G1 x H' d hd s1 s2 y => hy i H G1 x H' d hd s1 s2 (w.yields i H x H' (List.getElem?_eq_some_iff.mp hd).1 (hP H (s1.trans s2)) y)⟩
theorem walkD_list {K : PySem.W.Frag} {G : Hp} {a : Addr} {xs : List V} {ds : List PyData} (h : G a = some (.lst xs)) (r : DaAll G xs ds) : WalkD (Itl K a) G ds :=
  walkD_of (walk_list (xs := xs)) r.length (fun H s => SqL.of (s _ _ h)) fun i H G1 x H' d hd s1 s2 ⟨e, hx⟩ => by
    subst e
    obtain ⟨u, h1, h2⟩ := r.get hd
    rw [hx] at h1
    cases h1
    exact ⟨G1, .refl s2, h2.mono s1⟩
theorem walkD_tup {K : PySem.W.Frag} {G : Hp} {a : Addr} {xs : List V} {ds : List PyData} (h : G a = some (.tup xs)) (r : DaAll G xs ds) : WalkD (Itt K a) G ds :=
  walkD_of (walk_tup (xs := xs)) r.length (fun H s => SqT.of (s _ _ h)) fun i H G1 x H' d hd s1 s2 ⟨e, hx⟩ => by
    subst e
    obtain ⟨u, h1, h2⟩ := r.get hd
    rw [hx] at h1
    cases h1
    exact ⟨G1, .refl s2, h2.mono s1⟩
def rangeD (lo : Int) (n : Nat) : List PyData := (List.range n).map fun i => .int (lo + (i : Nat))
theorem walkD_range {G : Hp} {lo : Int} {n : Nat} : WalkD (Itr lo n) G (rangeD lo n) :=
  walkD_of walk_range (by simp [rangeD]) (fun H s => trivial) fun i H G1 x H' d hd s1 s2 ⟨e, hx⟩ => by
    subst e hx
    have e : d = .int (lo + (i : Nat)) := by
      unfold rangeD at hd
      rw [List.getElem?_map] at hd
      obtain ⟨j, h1, h2⟩ := Option.map_eq_some_iff.mp hd
      obtain ⟨h3, h4⟩ := List.getElem?_eq_some_iff.mp h1
      rw [List.getElem_range] at h4
      rw [← h2, ← h4]
    subst e
    exact ⟨G1, .refl s2, .int _⟩
theorem Mv.pair {G H : Hp} {T : Addr} {x y : V} {d e : PyData} (s : Same G H) (h : H T = none) (hx : Da G x d) (hy : Da G y e) : Mv G H (upd G T (.tup [x, y])) (upd H T (.tup [x, y])) ∧ Da (upd G T (.tup [x, y])) (.ref T) (.tuple [d, e]) :=
  ⟨.new s h, Mv.tup s h (.cons hx (.cons hy .nil))⟩
def zipD (a b : List PyData) : List PyData := List.zipWith (fun x y => .tuple [x, y]) a b
theorem zipD_get {a b : List PyData} {i : Nat} {d : PyData} (h : (zipD a b)[i]? = some d) : ∃ x y, a[i]? = some x ∧ b[i]? = some y ∧ d = .tuple [x, y] := by
  unfold zipD at h
  rw [List.getElem?_zipWith] at h
  cases ha : a[i]? with
  | none => rw [ha] at h; cases h
  | some x =>
    cases hb : b[i]? with
    | none => rw [ha, hb] at h; cases h
    | some y =>
      rw [ha, hb] at h
      exact ⟨x, y, rfl, rfl, (Option.some.inj h).symm⟩
theorem zip_turn {G G1 H H' : Hp} {v : V} {i : Nat} {xs ys : List V} {a b : List PyData} {d : PyData} (ra : DaAll G xs a) (rb : DaAll G ys b) (hd : (zipD a b)[i]? = some d) (s1 : Same G G1) (s2 : Same G1 H)
    (y : YPair (fun i => xs[i]?) (fun i => ys[i]?) i H v H') : ∃ G', Mv G1 H G' H' ∧ Da G' v d := by
  obtain ⟨T, x, z, rfl, hT, rfl, h1, h2⟩ := y
  obtain ⟨dx, dy, h3, h4, rfl⟩ := zipD_get hd
  obtain ⟨u, h5, h6⟩ := ra.get h3
  obtain ⟨w, h7, h8⟩ := rb.get h4
  obtain rfl := Option.some.inj (h1.symm.trans h5)
  obtain rfl := Option.some.inj (h2.symm.trans h7)
  exact ⟨_, Mv.pair s2 hT (h6.mono s1) (h8.mono s1)⟩
theorem walkD_zipL {K : PySem.W.Frag} {G : Hp} {a b : Addr} {xs ys : List V} {ds es : List PyData} (h : G a = some (.lst xs)) (r : DaAll G xs ds) (h' : G b = some (.lst ys)) (r' : DaAll G ys es) : WalkD (Itz K a b) G (zipD ds es) :=
  walkD_of (walk_zip (xs := xs) (ys := ys) rfl) (by simp [zipD, r.length, r'.length]) (fun H s => ⟨SqL.of (s _ _ h), SqL.of (s _ _ h')⟩) fun i H G1 x H' d hd s1 s2 y => zip_turn r r' hd s1 s2 y
theorem walk_zipT {K : PySem.W.Frag} {a b : Addr} {xs ys : List V} {n : Nat} (hn : n = min xs.length ys.length) : Walk (RZ.ItzT K a b) n (fun H => SqT K H a xs ∧ SqT K H b ys) (YPair (fun i => xs[i]?) (fun i => ys[i]?)) := by
  subst hn
  refine ⟨fun i _ hi q => ?_, fun _ q => ⟨xs, ys, q.1, q.2, by omega⟩, fun i H v H' _ q y => ?_⟩
  · have h1 : i < xs.length := by omega
    have h2 : i < ys.length := by omega
    exact ⟨xs, ys, xs[i], ys[i], q.1, q.2, by simp [h1], by simp [h2]⟩
  · obtain ⟨T, x, z, h1, h2, h3, h4, h5⟩ := y
    exact ⟨T, x, z, h1, h2, h3, h4 xs q.1, h5 ys q.2⟩
theorem walkD_zipT {K : PySem.W.Frag} {G : Hp} {a b : Addr} {xs ys : List V} {ds es : List PyData} (h : G a = some (.tup xs)) (r : DaAll G xs ds) (h' : G b = some (.tup ys)) (r' : DaAll G ys es) : WalkD (RZ.ItzT K a b) G (zipD ds es) :=
  walkD_of (walk_zipT (xs := xs) (ys := ys) rfl) (by simp [zipD, r.length, r'.length]) (fun H s => ⟨SqT.of (s _ _ h), SqT.of (s _ _ h')⟩) fun i H G1 x H' d hd s1 s2 y => zip_turn r r' hd s1 s2 y

section
variable {X : Cx} {tg a b e : Expr} {es : List Expr} {fa fb : En → Option PyData} {pos p : Pos}
/-- a list or tuple walked -/
def iS (f : En → Option PyData) : En → Option (List PyData) := fun env => (f env).bind items
theorem di_seq (h : PE X e (tD fa)) : PI X tg e (tI (iS fa)) := PI.weak (PI.or (pi_list h) (pi_tup h)) fun σ H R ⟨G, env, ds, s, ok, h, q⟩ => by
  obtain ⟨d, h1, h2⟩ := Option.bind_eq_some_iff.mp h
  cases d with
  | list es =>
    cases h2
    refine .inl ⟨G, env, _, s, ok, h1, fun v G1 H1 m1 d1 => ?_⟩
    cases d1 with
    | lst ha r => exact ⟨_, rfl, ⟨_, SqL.of (m1.s _ _ ha)⟩, q _ G1 H1 m1 (walkD_list ha r)⟩
  | tuple es =>
    cases h2
    refine .inr ⟨G, env, _, s, ok, h1, fun v G1 H1 m1 d1 => ?_⟩
    cases d1 with
    | tup ha r => exact ⟨_, rfl, ⟨_, SqT.of (m1.s _ _ ha)⟩, q _ G1 H1 m1 (walkD_tup ha r)⟩
  | _ => cases h2
def iR1 (f : En → Option PyData) : En → Option (List PyData) := fun env => ((f env).bind asI).bind fun n => if -100000 ≤ n ∧ n ≤ 100000 then some (rangeD 0 n.toNat) else none
def iR2 (f g : En → Option PyData) : En → Option (List PyData) := fun env => ((f env).bind asI).bind fun lo => ((g env).bind asI).bind fun n => if (-100000 ≤ lo ∧ lo ≤ 100000) ∧ -100000 ≤ n ∧ n ≤ 100000 then some (rangeD lo (n - lo).toNat) else none
theorem di_range1 (ha : PE X a (tD fa)) (hm : X.mg "range" = none) (hg : Gl X "range" := by rfl) (hs : starEach [a] X.env = [(false, eval a X.env)] := by rfl) : PI X tg (.Call (.Name "range" p) [a] [] pos) (tI (iR1 fa)) :=
  PI.weak (pi_range1 hg hm (pa_cons ha pa_nil hs) hs) fun σ H R ⟨G, env, ds, s, ok, h, q⟩ => by
    obtain ⟨n, h1, h2⟩ := Option.bind_eq_some_iff.mp h
    obtain ⟨d, h3, h4⟩ := Option.bind_eq_some_iff.mp h1
    rw [asI_some h4] at h3
    split at h2
    · rename_i hc
      cases h2
      refine ⟨G, env, _, s, ok, h3, fun v G1 H1 m1 d1 => ⟨n, by rw [d1.int'], by omega, by omega, q _ G1 H1 m1 walkD_range⟩⟩
    · cases h2
theorem di_range2 (ha : PE X a (tD fa)) (hb : PE X b (tD fb)) (hm : X.mg "range" = none) (hg : Gl X "range" := by rfl) (hs : starEach [a, b] X.env = [(false, eval a X.env), (false, eval b X.env)] := by rfl) (hs2 : starEach [b] X.env = [(false, eval b X.env)] := by rfl) :
    PI X tg (.Call (.Name "range" p) [a, b] [] pos) (tI (iR2 fa fb)) :=
  PI.weak (pi_range2 hg hm (pa_cons ha (pa_cons hb pa_nil hs2) (by rw [hs, hs2])) hs hs2) fun σ H R ⟨G, env, ds, s, ok, h, q⟩ => by
    obtain ⟨lo, h1, h2⟩ := Option.bind_eq_some_iff.mp h
    obtain ⟨n, h5, h6⟩ := Option.bind_eq_some_iff.mp h2
    obtain ⟨d, h3, h4⟩ := Option.bind_eq_some_iff.mp h1
    obtain ⟨e, h7, h8⟩ := Option.bind_eq_some_iff.mp h5
    rw [asI_some h4] at h3
    rw [asI_some h8] at h7
    split at h6
    · rename_i hc
      cases h6
      refine ⟨G, env, _, s, ok, h3, fun v G1 H1 m1 d1 => ⟨G1, env, _, m1.s, ok.mono m1.g, h7, fun w G2 H2 m2 d2 => ⟨lo, n, by rw [d1.int', d2.int'], by omega, q _ G2 H2 (m1.trans m2) walkD_range⟩⟩⟩
    · cases h6

/-! ### targets -/
def wipeE (env : En) : List Nat → En
  | [] => env
  | v :: vs => (wipeE env vs).set v none
theorem wipeE_length (env : En) : ∀ vs : List Nat, (wipeE env vs).length = env.length
  | [] => rfl
  | v :: vs => by unfold wipeE; rw [List.length_set, wipeE_length env vs]
theorem wipe_get (σ : St) (j : Nat) : ∀ vs : List Nat, (wipe σ vs)[j]? = if j ∈ vs then (if j < σ.length then some none else none) else σ[j]?
  | [] => by simp [wipe]
  | v :: vs => by
    unfold wipe
    rw [List.getElem?_set, wipe_length, wipe_get σ j vs]
    by_cases h : v = j
    · subst h
      simp
    · rw [if_neg h]
      have e : (j ∈ v :: vs) ↔ j ∈ vs := by simp [Ne.symm h]
      simp only [e]
theorem wipeE_get (σ : En) (j : Nat) : ∀ vs : List Nat, (wipeE σ vs)[j]? = if j ∈ vs then (if j < σ.length then some none else none) else σ[j]?
  | [] => by simp [wipeE]
  | v :: vs => by
    unfold wipeE
    rw [List.getElem?_set, wipeE_length, wipeE_get σ j vs]
    by_cases h : v = j
    · subst h
      simp
    · rw [if_neg h]
      have e : (j ∈ v :: vs) ↔ j ∈ vs := by simp [Ne.symm h]
      simp only [e]
theorem wipe_wipe (σ : St) (vs : List Nat) : wipe (wipe σ vs) vs = wipe σ vs := by
  refine List.ext_getElem? fun j => ?_
  rw [wipe_get, wipe_get, wipe_length]
  split <;> simp_all
theorem wipe_set {σ : St} {vs : List Nat} {i : Nat} {x : Option V} (h : i ∈ vs) : wipe (σ.set i x) vs = wipe σ vs := by
  refine List.ext_getElem? fun j => ?_
  rw [wipe_get, wipe_get, List.length_set]
  split
  · rfl
  · rename_i hj
    rw [List.getElem?_set_ne (fun e => hj (by rw [← e]; exact h))]
theorem EnvOk.wipe {G : Hp} {σ : St} {env : En} (ok : EnvOk G σ env) (vs : List Nat) : EnvOk G (L2.wipe σ vs) (wipeE env vs) := by
  refine ⟨by rw [wipeE_length, wipe_length, ok.len], fun i d h => ?_⟩
  rw [wipeE_get] at h
  rw [wipe_get]
  split at h
  · split at h <;> cases h
  · rename_i hi
    rw [if_neg hi]
    exact ok.get i d h
theorem EnvOk.set {G : Hp} {σ : St} {env : En} {v : V} {d : PyData} (ok : EnvOk G σ env) (i : Nat) (r : Da G v d) : EnvOk G (σ.set i (some v)) (env.set i (some d)) := by
  refine ⟨by rw [List.length_set, List.length_set, ok.len], fun j x h => ?_⟩
  rw [List.getElem?_set] at h ⊢
  split at h
  · rename_i e
    subst e
    split at h
    · rename_i hl
      cases h
      rw [if_pos rfl, if_pos (by rw [← ok.len]; exact hl)]
      exact ⟨v, rfl, r⟩
    · cases h
  · rename_i e
    rw [if_neg e]
    exact ok.get j x h
def GD (g : TG) (t : PyData → En → Option En) (is : List Nat) : Prop := ∀ (G H : Hp) (σ : St) (env : En) (v : V) (d : PyData) (env' : En), Same G H → EnvOk G σ env → Da G v d → t d env = some env' →
  ∀ Q : St → Hp → Prop, (∀ σ', EnvOk G σ' env' → (∀ vs, (∀ i ∈ is, i ∈ vs) → wipe σ' vs = wipe σ vs) → Q σ' H) → g v σ H Q
def tg1 (i : Nat) : PyData → En → Option En := fun d env => some (env.set i (some d))
theorem gd_1 (i : Nat) : GD (gName i) (tg1 i) [i] := by
  intro G H σ env v d env' s ok r h Q q
  cases h
  exact q _ (ok.set i r) fun vs hv => wipe_set (hv i (by simp))
def tgs : List Nat → List PyData → En → Option En
  | [], [], env => some env
  | i :: is, d :: ds, env => tgs is ds (env.set i (some d))
  | _, _, _ => none
def tgN (is : List Nat) : PyData → En → Option En := fun d env => match d with
  | .tuple ds => tgs is ds env
  | _ => none
def GDs (g : TGs) (is : List Nat) : Prop := ∀ (G H : Hp) (σ : St) (env : En) (vs : List V) (ds : List PyData) (env' : En), Same G H → EnvOk G σ env → DaAll G vs ds → tgs is ds env = some env' →
  ∀ Q : St → Hp → Prop, (∀ σ', EnvOk G σ' env' → (∀ ws, (∀ i ∈ is, i ∈ ws) → wipe σ' ws = wipe σ ws) → Q σ' H) → g vs σ H Q
theorem gds_nil : GDs gNil [] := by
  intro G H σ env vs ds env' s ok r h Q q
  cases r with
  | nil =>
    cases h
    exact ⟨rfl, q σ ok fun _ _ => rfl⟩
  | cons _ _ => cases h
theorem gds_cons {i : Nat} {is : List Nat} {u : TGs} (h : GDs u is) : GDs (gCons (gName i) u) (i :: is) := by
  intro G H σ env vs ds env' s ok r e Q q
  cases r with
  | nil => cases e
  | cons r1 r2 => exact ⟨_, _, rfl, h G H _ _ _ _ env' s (ok.set i r1) r2 e Q fun σ' ok' hw => q σ' ok' fun ws hws => (hw ws fun j hj => hws j (List.mem_cons_of_mem _ hj)).trans (wipe_set (hws i List.mem_cons_self))⟩
theorem tgs_len : ∀ {is : List Nat} {ds : List PyData} {env env' : En}, tgs is ds env = some env' → ds.length = is.length
  | [], [], _, _, _ => rfl
  | _ :: is, _ :: ds, _, _, h => by rw [List.length_cons, List.length_cons, tgs_len (is := is) (ds := ds) h]
  | [], _ :: _, _, _, h => by cases h
  | _ :: _, [], _, _, h => by cases h
theorem gd_N {K : PySem.W.Frag} {u : TGs} {n : Nat} {is : List Nat} (h : GDs u is) (hn : is.length = n) : GD (gTup K n u) (tgN is) is := by
  intro G H σ env v d env' s ok r e Q q
  cases r with
  | tup ha ra =>
    have e : tgs is _ env = some env' := e
    exact ⟨_, _, rfl, SqT.of (s _ _ ha), by rw [ra.length, tgs_len e, hn], h G H σ env _ _ env' s ok ra e Q q⟩
  | _ => cases e

/-! ### comprehensions -/
def compL (t : PyData → En → Option En) (c : En → Option Bool) (e : En → Option PyData) (env : En) : List PyData → Option (List PyData)
  | [] => some []
  | d :: ds => (t d env).bind fun env' => (c env').bind fun b => if b = true then (e env').bind fun y => (compL t c e env ds).map fun ys => y :: ys else compL t c e env ds
def eLc (fi : En → Option (List PyData)) (t : PyData → En → Option En) (c : En → Option Bool) (e : En → Option PyData) (vs : List Nat) : En → Option PyData := fun env =>
  ((fi env).bind cap).bind fun ds => (compL t c e (wipeE env vs) ds).map .list
def CD (tt : TT) (c : En → Option Bool) : Prop := ∀ (G : Hp) (σ : St) (env : En) (b : Bool), EnvOk G σ env → c env = some b → Et tt σ G b
def cYes : En → Option Bool := fun _ => some true
theorem cd_yes : CD tYes cYes := by
  intro G σ env b ok h H s Q q
  cases h
  exact q G H (.refl s)
theorem cd_T {c : En → Option Bool} : CD (tT c) c := fun G σ env b ok h => et_of ok h
theorem Mv.mutD {G H G' H' : Hp} {p : Addr} {o : HO} (m : Mv G H G' H') (h : H p = none) (g : G' p = none) : Mv G H G' (upd H' p o) := ⟨m.g, same_mut m.s g, same_mut m.h h, m.f⟩
theorem lc_imp {fi : En → Option (List PyData)} {t : PyData → En → Option En} {c : En → Option Bool} {fe : En → Option PyData} {vs is : List Nat} {g : TG} {tt : TT} (hg : GD g t is) (hi : ∀ i ∈ is, i ∈ vs) (hc : CD tt c) (σ : St) (H : Hp) (Q : VK)
    (h : tD (eLc fi t c fe vs) σ H Q) : tLc (tI fi) g tt (tD fe) vs σ H Q := by
  obtain ⟨G, env, d, s, ok, h, q⟩ := h
  obtain ⟨ds, h1, h2⟩ := Option.bind_eq_some_iff.mp h
  obtain ⟨ds', h3, h4⟩ := Option.bind_eq_some_iff.mp h1
  obtain ⟨rfl, hl⟩ := cap_some h4
  obtain ⟨out, h5, rfl⟩ := Option.map_eq_some_iff.mp h2
  refine ⟨G, env, ds', s, ok, h3, fun J G1 H1 m1 w D hD => ?_⟩
  have hG1 : G1 D = none := m1.s.free hD
  refine lc_it (n := ds'.length) (G := Same G1) (Y := J.yld) ⟨w.go, w.stop, fun _ _ _ _ _ _ y => y⟩
    (fun i H2 => ∃ Gi acc ys, Mv G1 H1 Gi H2 ∧ Gi D = none ∧ H2 D = some (.lst acc) ∧ DaAll Gi acc ys ∧ ys.length ≤ i ∧ (compL t c fe (wipeE env vs) (ds'.drop i)).map (fun r => ys ++ r) = some out) ?_ ?_ ?_ ?_
  · refine ⟨G1, [], [], .newH m1.s hD, hG1, upd_same, .nil, Nat.le_refl _, ?_⟩
    rw [List.drop_zero, h5]
    rfl
  · rintro i H2 _ ⟨Gi, acc, ys, m, _⟩
    exact m.g.trans m.s
  · rintro i x H2 H3 hi' ⟨Gi, acc, ys, m, hGi, hH2, r, hlen, hq⟩ y
    obtain ⟨m3, rx⟩ : ∃ G3, Mv Gi H2 G3 H3 ∧ Da G3 x ds'[i] := w.yld i H2 Gi x H3 ds'[i] (by simp [hi']) m.g m.s y
    obtain ⟨m3, rx⟩ := rx
    rename_i G3
    have ed : ds'.drop i = ds'[i] :: ds'.drop (i + 1) := List.drop_eq_getElem_cons hi'
    rw [ed] at hq
    obtain ⟨zs, hq1, hq2⟩ := Option.map_eq_some_iff.mp hq
    obtain ⟨env', ht, hq1⟩ := Option.bind_eq_some_iff.mp hq1
    obtain ⟨b, hb, hq1⟩ := Option.bind_eq_some_iff.mp hq1
    refine hg G3 H3 (wipe σ vs) (wipeE env vs) x _ env' m3.s ((((ok.wipe vs).mono m1.g).mono m.g).mono m3.g) rx ht _ fun σ2 ok2 hw => ⟨(hw vs hi).trans (wipe_wipe σ vs), ?_⟩
    refine hc G3 σ2 env' b ok2 hb H3 m3.s _ fun G4 H4 m4 => ?_
    have m34 := m3.trans m4
    cases b with
    | false =>
      refine iteF ⟨G4, acc, ys, m.trans m34, m34.f D hGi ⟨_, hH2⟩, m34.h D _ hH2, r.mono m34.g, Nat.le_succ_of_le hlen, ?_⟩
      rw [if_neg Bool.false_ne_true] at hq1
      rw [hq1]
      exact congrArg some hq2
    | true =>
      rw [if_pos rfl] at hq1
      obtain ⟨z, hz, hq1⟩ := Option.bind_eq_some_iff.mp hq1
      obtain ⟨us, hq3, hq4⟩ := Option.map_eq_some_iff.mp hq1
      subst hq4
      refine iteT ⟨G4, env', z, m4.s, ok2.mono m4.g, hz, fun v G5 H5 m5 rv => ?_⟩
      have m35 := m34.trans m5
      have g5 : G5 D = none := m35.f D hGi ⟨_, hH2⟩
      refine ⟨acc, m35.h D _ hH2, size_lt (by rw [r.length]; omega), G5, acc ++ [v], ys ++ [z], (m.trans m35).mutD hD g5, g5, upd_same, (r.mono m35.g).append (.one rv), by rw [List.length_append]; exact Nat.succ_le_succ hlen, ?_⟩
      rw [hq3, ← hq2]
      simp
  · rintro H2 ⟨Gi, acc, ys, m, hGi, hH2, r, hlen, hq⟩
    rw [List.drop_length] at hq
    obtain rfl : ys = out := by simpa [compL] using hq
    refine q (.ref D) (upd Gi D (.lst acc)) H2 (m1.trans ⟨m.g.trans (same_new hGi), fun b o e => ?_, m.h, fun p e ⟨o, ho⟩ => ?_⟩) (.lst upd_same (r.mono (same_new hGi)))
    · by_cases hb : b = D
      · subst hb
        rw [upd_same] at e
        cases e
        exact hH2
      · rw [upd_ne hb] at e
        exact m.s _ _ e
    · rw [upd_ne (ne_of_none ho hD)]
      exact m.f p e ⟨o, ho⟩
theorem pd_lc {elt iter : Expr} {ifs : List Expr} {scope : Scope} {own : List (Str × Nat)} {fi : En → Option (List PyData)} {t : PyData → En → Option En} {c : En → Option Bool} {fe : En → Option PyData} {is : List Nat} {g : TG} {tt : TT} (ok : BlkOk X.N X.env.scope scope own) (hi : PI X tg iter (tI fi))
    (hg : ∀ (s : Shared) (H : Hp) (C : Addr) (cl : List (Str × Addr)) (fp : List Addr), PG (X.blk s H scope (compEnvC scope cl C X.env) fp) tg g) (ht : ∀ (s : Shared) (H : Hp) (C : Addr) (cl : List (Str × Addr)) (fp : List Addr), PTs (X.blk s H scope (compEnvC scope cl C X.env) fp) ifs tt)
    (he : ∀ (s : Shared) (H : Hp) (C : Addr) (cl : List (Str × Addr)) (fp : List Addr), PE (X.blk s H scope (compEnvC scope cl C X.env) fp) elt (tD fe)) (gd : GD g t is) (cd : CD tt c) (hN : X.N.Nodup) (hc : X.calm = true := by rfl) (hv : ∀ i ∈ is, i ∈ own.map (·.2) := by decide)
    (hs : ∀ x, foldedSetIterable iter X.env x = pure x := by intro _; rfl) : PE X (.ListComp elt [⟨tg, iter, ifs, 0⟩] scope pos) (tD (eLc fi t c fe (own.map (·.2)))) :=
  PE.weak (pe_lc hc hN hi ok hg ht he hs) fun σ H Q h => lc_imp gd hv cd σ H Q h
end
end Sb
end
section
set_option Elab.async false
set_option linter.all false
set_option maxRecDepth 100000
set_option maxHeartbeats 2000000
/-! Sx4: statements and defs as functions on data. -/
namespace Sb
open PySem PySem.Spec L2
open PyProof.Rows hiding St

/-! ### the slots: a slot's own list or dict may be changed -/
inductive Sl where
  | no
  | dat (d : PyData)
  | own (d : PyData)
def Sl.d1 : Sl → Option PyData
  | .dat d => some d
  | _ => none
def Sl.d2 : Sl → Option PyData
  | .dat d => some d
  | .own d => some d
  | .no => none
def Sl.rel : Sl → Sl
  | .own d => .dat d
  | s => s
def dats (e : List Sl) : En := e.map Sl.d1
def alls (e : List Sl) : En := e.map Sl.d2
def relA (e : List Sl) : List Sl := e.map Sl.rel
inductive Out where
  | nx (e : List Sl)
  | rt (d : PyData)

inductive OwnR (G H : Hp) (p : Addr) : PyData → Prop
  | lst {xs : List V} {ds : List PyData} : H p = some (.lst xs) → DaAll G xs ds → OwnR G H p (.list ds)
  | dic {kvs : List (Key × V)} {ds : List (PyData × PyData)} : H p = some (.dK kvs) → DaKv G kvs ds → OwnR G H p (.dict ds)
theorem OwnR.da {G H : Hp} {p : Addr} {d : PyData} (o : OwnR G H p d) (s : Same G H) : Da H (.ref p) d := by
  cases o with
  | lst h r => exact .lst h (r.mono s)
  | dic h r => exact .dic h (r.mono s)
theorem OwnR.there {G H : Hp} {p : Addr} {d : PyData} (o : OwnR G H p d) : ∃ u, H p = some u := by
  cases o with
  | lst h r => exact ⟨_, h⟩
  | dic h r => exact ⟨_, h⟩
theorem OwnR.move {G H G' H' : Hp} {p : Addr} {d : PyData} (o : OwnR G H p d) (s : Same G G') (e : H' p = H p) : OwnR G' H' p d := by
  cases o with
  | lst h r => exact .lst (e.trans h) (r.mono s)
  | dic h r => exact .dic (e.trans h) (r.mono s)

structure SR (G0 H0 : Hp) (σ : St) (H : Hp) (env : List Sl) (G : Hp) : Prop where
  mv : Mv G0 H0 G H
  ok : EnvOk G σ (dats env)
  own : ∀ (i : Nat) (d : PyData), env[i]? = some (.own d) → ∃ p, σ[i]? = some (some (.ref p)) ∧ G p = none ∧ H0 p = none ∧ OwnR G H p d
  apart : ∀ (i j : Nat) (d e : PyData) (p : Addr), env[i]? = some (.own d) → env[j]? = some (.own e) → σ[i]? = some (some (.ref p)) → σ[j]? = some (some (.ref p)) → i = j
def SRx (G0 H0 : Hp) (σ : St) (H : Hp) (env : List Sl) : Prop := ∃ G, SR G0 H0 σ H env G
theorem dats_get {env : List Sl} {i : Nat} {d : PyData} (h : (dats env)[i]? = some (some d)) : env[i]? = some (.dat d) := by
  unfold dats at h
  rw [List.getElem?_map] at h
  obtain ⟨x, h1, h2⟩ := Option.map_eq_some_iff.mp h
  cases x with
  | dat e => cases h2; exact h1
  | no => cases h2
  | own e => cases h2
theorem alls_get {env : List Sl} {i : Nat} {d : PyData} (h : (alls env)[i]? = some (some d)) : env[i]? = some (.dat d) ∨ env[i]? = some (.own d) := by
  unfold alls at h
  rw [List.getElem?_map] at h
  obtain ⟨x, h1, h2⟩ := Option.map_eq_some_iff.mp h
  cases x with
  | dat e => cases h2; exact .inl h1
  | no => cases h2
  | own e => cases h2; exact .inr h1
theorem get_dats {env : List Sl} {i : Nat} {d : PyData} (h : env[i]? = some (.dat d)) : (dats env)[i]? = some (some d) := by
  unfold dats
  rw [List.getElem?_map, h]
  rfl
section
variable {G0 H0 G H G' H' : Hp} {σ : St} {env : List Sl} {D : Ends}
theorem SR.len (r : SR G0 H0 σ H env G) : env.length = σ.length := by
  have h := r.ok.len
  unfold dats at h
  rw [List.length_map] at h
  exact h
theorem SR.move (r : SR G0 H0 σ H env G) (m : Mv G H G' H') : SR G0 H0 σ H' env G' := by
  refine ⟨r.mv.trans m, r.ok.mono m.g, fun i d h => ?_, r.apart⟩
  obtain ⟨p, h1, h2, h3, h4⟩ := r.own i d h
  obtain ⟨u, hu⟩ := h4.there
  exact ⟨p, h1, m.f p h2 ⟨u, hu⟩, h3, h4.move m.g ((m.h p u hu).trans hu.symm)⟩
theorem SR.all (r : SR G0 H0 σ H env G) : EnvOk H σ (alls env) := by
  refine ⟨by rw [alls, List.length_map]; exact r.len, fun i d h => ?_⟩
  rcases alls_get h with h | h
  · obtain ⟨v, h1, h2⟩ := r.ok.get i d (get_dats h)
    exact ⟨v, h1, h2.mono r.mv.s⟩
  · obtain ⟨p, h1, h2, h3, h4⟩ := r.own i d h
    exact ⟨_, h1, h4.da r.mv.s⟩
theorem relA_get {i : Nat} {d : PyData} : (relA env)[i]? = some (.own d) → False := fun h => by
  unfold relA at h
  rw [List.getElem?_map] at h
  obtain ⟨x, _, h2⟩ := Option.map_eq_some_iff.mp h
  cases x <;> cases h2
theorem dats_relA : dats (relA env) = alls env := by
  unfold dats relA alls
  rw [List.map_map]
  refine List.map_congr_left fun x _ => ?_
  cases x <;> rfl
/-- all own things given up -/
theorem SR.rel (r : SR G0 H0 σ H env G) : ∃ G', Same G G' ∧ SR G0 H0 σ H (relA env) G' := by
  have s1 : Same G (fun a => if H0 a = none then H a else G a) := fun b o e => by
    show (if H0 b = none then H b else G b) = some o
    split
    · exact r.mv.s b o e
    · exact e
  have s2 : Same (fun a => if H0 a = none then H a else G a) H := fun b o e => by
    have e : (if H0 b = none then H b else G b) = some o := e
    split at e
    · exact e
    · exact r.mv.s b o e
  refine ⟨fun a => if H0 a = none then H a else G a, s1, ⟨r.mv.g.trans s1, s2, r.mv.h, fun p e ⟨o, ho⟩ => ?_⟩, ⟨?_, fun i d h => ?_⟩, fun i d h => (relA_get h).elim, fun i j d e p h => (relA_get h).elim⟩
  · show (if H0 p = none then H p else G p) = none
    rw [if_neg (by rw [ho]; exact fun z => nomatch z)]
    exact r.mv.f p e ⟨o, ho⟩
  · rw [dats_relA, alls, List.length_map]
    exact r.len
  · rw [dats_relA] at h
    rcases alls_get h with h | h
    · obtain ⟨v, h1, h2⟩ := r.ok.get i d (get_dats h)
      exact ⟨v, h1, h2.mono s1⟩
    · obtain ⟨p, h1, h2, h3, h4⟩ := r.own i d h
      refine ⟨_, h1, (h4.move s1 ?_ : OwnR _ (fun a => if H0 a = none then H a else G a) p d).da (.refl _)⟩
      show (if H0 p = none then H p else G p) = H p
      rw [if_pos h3]
theorem dats_set {i : Nat} {d : PyData} : dats (env.set i (.dat d)) = (dats env).set i (some d) := by
  unfold dats
  rw [List.map_set]
  rfl
theorem SR.setD (r : SR G0 H0 σ H env G) (i : Nat) {v : V} {d : PyData} (h : Da G v d) : SR G0 H0 (σ.set i (some v)) H (env.set i (.dat d)) G := by
  have ne : ∀ {j : Nat} {e : PyData}, (env.set i (.dat d))[j]? = some (.own e) → i ≠ j ∧ env[j]? = some (.own e) := fun {j e} q => by
    rw [List.getElem?_set] at q
    split at q
    · split at q <;> cases q
    · exact ⟨by assumption, q⟩
  refine ⟨r.mv, by rw [dats_set]; exact r.ok.set i h, fun j e q => ?_, fun j k e f p q1 q2 q3 q4 => ?_⟩
  · obtain ⟨n, q⟩ := ne q
    rw [List.getElem?_set_ne n]
    exact r.own j e q
  · obtain ⟨n1, q1⟩ := ne q1
    obtain ⟨n2, q2⟩ := ne q2
    rw [List.getElem?_set_ne n1] at q3
    rw [List.getElem?_set_ne n2] at q4
    exact r.apart j k e f p q1 q2 q3 q4
/-- an own thing at p goes to slot i -/
theorem SR.setP (r : SR G0 H0 σ H env G) (i : Nat) {p : Addr} {d : PyData} (hG : G p = none) (h0 : H0 p = none) (h : OwnR G H p d) (old : ∀ (j : Nat) (e : PyData) (q : Addr), env[j]? = some (.own e) → σ[j]? = some (some (.ref q)) → q ≠ p) :
    SR G0 H0 (σ.set i (some (.ref p))) H (env.set i (.own d)) G := by
  have ne : ∀ {j : Nat} {e : PyData}, (env.set i (.own d))[j]? = some (.own e) → (i = j ∧ d = e ∧ i < env.length) ∨ (i ≠ j ∧ env[j]? = some (.own e)) := fun {j e} q => by
    rw [List.getElem?_set] at q
    split at q
    · split at q
      · cases q
        exact .inl ⟨by assumption, rfl, by assumption⟩
      · cases q
    · exact .inr ⟨by assumption, q⟩
  refine ⟨r.mv, ⟨by rw [dats, List.length_map, List.length_set, List.length_set]; exact r.len, fun j e q => ?_⟩, fun j e q => ?_, fun j k e f q q1 q2 q3 q4 => ?_⟩
  · have q := dats_get q
    rw [List.getElem?_set] at q
    split at q
    · split at q <;> cases q
    · rename_i n
      rw [List.getElem?_set_ne n]
      exact r.ok.get j e (get_dats q)
  · rcases ne q with ⟨rfl, rfl, hl⟩ | ⟨n, q⟩
    · rw [List.getElem?_set_self (by rw [← r.len]; exact hl)]
      exact ⟨p, rfl, hG, h0, h⟩
    · rw [List.getElem?_set_ne n]
      exact r.own j e q
  · rcases ne q1 with ⟨rfl, rfl, hl⟩ | ⟨n, q1⟩
    · rcases ne q2 with ⟨rfl, _, _⟩ | ⟨n2, q2⟩
      · rfl
      · rw [List.getElem?_set_self (by rw [← r.len]; exact hl)] at q3
        cases q3
        rw [List.getElem?_set_ne n2] at q4
        exact absurd rfl (old _ _ _ q2 q4)
    · rw [List.getElem?_set_ne n] at q3
      rcases ne q2 with ⟨rfl, _, hl⟩ | ⟨n2, q2⟩
      · rw [List.getElem?_set_self (by rw [← r.len]; exact hl)] at q4
        cases q4
        exact absurd rfl (old _ _ _ q1 q3)
      · rw [List.getElem?_set_ne n2] at q4
        exact r.apart j k e f q q1 q2 q3 q4
/-- a new object at p that no slot has yet -/
theorem SR.extra (r : SR G0 H0 σ H env G) {p : Addr} {o : HO} (hp : H p = none) : SR G0 H0 σ (upd H p o) env G := r.move (.newH r.mv.s hp)
theorem SR.news (r : SR G0 H0 σ H env G) {p : Addr} (hp : H p = none) (j : Nat) (e : PyData) (q : Addr) (a : env[j]? = some (.own e)) (b : σ[j]? = some (some (.ref q))) : q ≠ p := by
  obtain ⟨q', h1, h2, h3, h4⟩ := r.own j e a
  rw [b] at h1
  cases h1
  obtain ⟨u, hu⟩ := h4.there
  exact ne_of_none hu hp
theorem SR.setO (r : SR G0 H0 σ H env G) (i : Nat) {p : Addr} {o : HO} {d : PyData} (hp : H p = none) (h : OwnR G (upd H p o) p d) : SR G0 H0 (σ.set i (some (.ref p))) (upd H p o) (env.set i (.own d)) G :=
  (r.extra hp).setP i (r.mv.s.free hp) (r.mv.h.free hp) h (r.news hp)
/-- the own thing of slot i is changed -/
theorem SR.change (r : SR G0 H0 σ H env G) {i : Nat} {p : Addr} {o : HO} {d e : PyData} (hi : env[i]? = some (.own d)) (hp : σ[i]? = some (some (.ref p))) (h : OwnR G (upd H p o) p e) : SR G0 H0 σ (upd H p o) (env.set i (.own e)) G := by
  obtain ⟨p', h1, hG, h0, _⟩ := r.own i d hi
  rw [hp] at h1
  cases h1
  have ne : ∀ {j : Nat} {f : PyData}, (env.set i (.own e))[j]? = some (.own f) → (i = j ∧ e = f) ∨ (i ≠ j ∧ env[j]? = some (.own f)) := fun {j f} q => by
    rw [List.getElem?_set] at q
    split at q
    · split at q
      · cases q
        exact .inl ⟨by assumption, rfl⟩
      · cases q
    · exact .inr ⟨by assumption, q⟩
  have any : ∀ {j : Nat} {f : PyData}, (env.set i (.own e))[j]? = some (.own f) → ∃ f', env[j]? = some (.own f') := fun {j f} q => by
    rcases ne q with ⟨rfl, rfl⟩ | ⟨_, q⟩
    · exact ⟨_, hi⟩
    · exact ⟨_, q⟩
  refine ⟨r.mv.mutD h0 hG, ⟨by rw [dats, List.length_map, List.length_set]; exact r.len, fun j f q => ?_⟩, fun j f q => ?_, fun j k f f' q q1 q2 q3 q4 => ?_⟩
  · have q := dats_get q
    rw [List.getElem?_set] at q
    split at q
    · split at q <;> cases q
    · exact r.ok.get j f (get_dats q)
  · rcases ne q with ⟨rfl, rfl⟩ | ⟨n, q⟩
    · exact ⟨p, hp, hG, h0, h⟩
    · obtain ⟨q', h1, h2, h3, h4⟩ := r.own j f q
      refine ⟨q', h1, h2, h3, h4.move (.refl _) (upd_ne fun z => ?_)⟩
      rw [z] at h1
      exact n (r.apart i j d f p hi q hp h1)
  · obtain ⟨_, q1⟩ := any q1
    obtain ⟨_, q2⟩ := any q2
    exact r.apart j k _ _ q q1 q2 q3 q4
/-- another foot -/
theorem SR.rebase (r : SR G0 H0 σ H env G) : SR G H0 σ H env G := ⟨⟨.refl _, r.mv.s, r.mv.h, fun _ e _ => e⟩, r.ok, r.own, r.apart⟩
theorem Mv.onto {G1 : Hp} (a : Mv G0 H0 G H) (b : Mv G H0 G' H') : Mv G0 H0 G' H' := ⟨a.g.trans b.g, b.s, b.h, fun p e h => b.f p (a.f p e h) h⟩
theorem SR.unbase {σ' : St} {env' : List Sl} (a : Mv G0 H0 G H) (r : SR G H0 σ' H' env' G') : SR G0 H0 σ' H' env' G' := ⟨Mv.onto (G1 := G) a r.mv, r.ok, r.own, r.apart⟩
end

/-! ### statements -/
def After (D : Ends) (G0 H0 : Hp) : Out → Prop
  | .nx env => ∀ σ H, SRx G0 H0 σ H env → D.nx σ H
  | .rt d => ∀ v G H, Mv G0 H0 G H → Da G v d → D.rt v H
abbrev Sm := List Sl → Option Out
def tS (g : Sm) : TS := fun D σ H => ∃ G0 H0 env o, SRx G0 H0 σ H env ∧ g env = some o ∧ After D G0 H0 o
theorem PS.weak {X : Cx} {e : Stmt} {t t' : TS} (h : PS X e t) (w : ∀ D σ H, t' D σ H → t D σ H) : PS X e t' := ⟨fun pins s σ H D I q => h.run pins s σ H D I (w D σ H q)⟩
theorem PSs.weak {X : Cx} {e : List Stmt} {t t' : TS} (h : PSs X e t) (w : ∀ D σ H, t' D σ H → t D σ H) : PSs X e t' := ⟨fun pins s σ H D I q => h.run pins s σ H D I (w D σ H q)⟩
/-- an expression on the slots -/
def evS (f : En → Option PyData) (env : List Sl) : Option (PyData × List Sl) :=
  match f (dats env) with
  | some d => some (d, env)
  | none => match f (alls env) with
    | some d => some (d, if scd d = true then env else relA env)
    | none => none
theorem ev_run {f : En → Option PyData} {G0 H0 H G : Hp} {σ : St} {env env' : List Sl} {d : PyData} (r : SR G0 H0 σ H env G) (h : evS f env = some (d, env')) (Q : VK)
    (q : ∀ v G' H', Same G G' → Same H H' → SR G0 H0 σ H' env' G' → Da G' v d → Q v H') : tD f σ H Q := by
  unfold evS at h
  split at h
  · rename_i d' e
    cases h
    exact ⟨G, dats env, d, r.mv.s, r.ok, e, fun v G' H' m rv => q v G' H' m.g m.h (r.move m) rv⟩
  · split at h
    · rename_i d' e
      cases h
      by_cases hs : scd d = true
      · rw [if_pos hs] at q
        exact ⟨H, alls env, d, .refl _, r.all, e, fun v G' H' m rv => q v G H' (.refl _) m.h (r.move (.under r.mv.s m)) (rv.sc hs)⟩
      · rw [if_neg hs] at q
        obtain ⟨G1, s1, r1⟩ := r.rel
        have ok := r1.ok
        rw [dats_relA] at ok
        exact ⟨G1, alls env, d, r1.mv.s, ok, e, fun v G' H' m rv => q v G' H' (s1.trans m.g) m.h (r1.move m) rv⟩
    · cases h
theorem tt_run {f : En → Option Bool} {G0 H0 H : Hp} {σ : St} {env : List Sl} {b : Bool} (r : SRx G0 H0 σ H env) (h : f (alls env) = some b) (Q : Bool → Hp → Prop) (q : ∀ H', SRx G0 H0 σ H' env → Q b H') : tT f σ H Q := by
  obtain ⟨G, r⟩ := r
  exact ⟨H, alls env, b, .refl _, r.all, h, fun G' H' m => q H' ⟨G, r.move (.under r.mv.s m)⟩⟩
section
variable {X : Cx} {e a b : Expr} {es : List Expr} {f fa fb fk : En → Option PyData} {pos p : Pos} {D : Ends} {σ : St} {H : Hp} {g g1 g2 gb : Sm} {ft : En → Option Bool}
def nextS : Sm := fun env => some (.nx env)
def seqS (g1 g2 : Sm) : Sm := fun env => (g1 env).bind fun o => match o with
  | .nx env' => g2 env'
  | .rt d => some (.rt d)
theorem ss_nil : PSs X [] (tS nextS) := PSs.weak pss_nil fun D σ H ⟨G0, H0, env, o, r, h, q⟩ => by
  cases h
  exact q σ H r
theorem ss_cons {st : Stmt} {rest : List Stmt} (h1 : PS X st (tS g1)) (h2 : PSs X rest (tS g2)) : PSs X (st :: rest) (tS (seqS g1 g2)) := PSs.weak (pss_cons h1 h2) fun D σ H ⟨G0, H0, env, o, r, h, q⟩ => by
  obtain ⟨o1, h1, h2⟩ := Option.bind_eq_some_iff.mp h
  refine ⟨G0, H0, env, o1, r, h1, ?_⟩
  cases o1 with
  | nx env1 => exact fun σ1 H1 r1 => ⟨G0, H0, env1, o, r1, h2, q⟩
  | rt d =>
    cases h2
    exact q
theorem ss_one {st : Stmt} (h1 : PS X st (tS g1)) : PSs X [st] (tS g1) := pss_one h1
theorem s_never {st : Stmt} : PS X st (tS fun _ => none) := PS.weak ps_never fun D σ H ⟨G0, H0, env, o, r, h, q⟩ => by cases h
/-- x = e -/
def asgS (i : Nat) (f : En → Option PyData) : Sm := fun env => (evS f env).map fun p => .nx (p.2.set i (.dat p.1))
theorem asg_imp {i : Nat} (h : tS (asgS i f) D σ H) : tAsg (tD f) (gName i) D σ H := by
  obtain ⟨G0, H0, env, o, ⟨G, r⟩, h, q⟩ := h
  obtain ⟨⟨d, env'⟩, h1, rfl⟩ := Option.map_eq_some_iff.mp h
  exact ev_run r h1 _ fun v G' H' _ _ r' rv => q _ _ ⟨G', r'.setD i rv⟩
theorem s_set {i : Nat} {x : Str} {pos' : Pos} (hi : X.N[i]? = some x) (hx : Loc X.env.scope x) (he : PE X e (tD f)) (hN : X.N.Nodup) (hs : swapsWith e (some (.Name x pos')) pos.line X.env = pure false := by rfl) (hf : X.fn x = true ∨ X.env.scope.names.lookup x = some .local := by first | exact .inl rfl | exact .inr rfl | assumption) :
    PS X (.Assign [.Name x pos'] e pos) (tS (asgS i f)) := PS.weak (ps_set hN hi hx he hs hf) fun D σ H h => asg_imp h
/-- x = [..] of one for -/
theorem s_setLc {i : Nat} {y : Str} {py : Pos} {elt tg iter : Expr} {ifs : List Expr} {scope : Scope} {own : List (Str × Nat)} {spos : Pos} {fi : En → Option (List PyData)} {t : PyData → En → Option En} {c : En → Option Bool} {fe : En → Option PyData} {is : List Nat} {g : TG} {tt : TT}
    (hy : X.N[i]? = some y) (ok : BlkOk X.N X.env.scope scope own) (hi : PI X tg iter (tI fi))
    (hg : ∀ (s : Shared) (H : Hp) (C : Addr) (cl : List (Str × Addr)) (fp : List Addr), PG (X.blk s H scope (compEnvC scope cl C X.env) fp) tg g) (ht : ∀ (s : Shared) (H : Hp) (C : Addr) (cl : List (Str × Addr)) (fp : List Addr), PTs (X.blk s H scope (compEnvC scope cl C X.env) fp) ifs tt)
    (he : ∀ (s : Shared) (H : Hp) (C : Addr) (cl : List (Str × Addr)) (fp : List Addr), PE (X.blk s H scope (compEnvC scope cl C X.env) fp) elt (tD fe)) (gd : GD g t is) (cd : CD tt c) (hN : X.N.Nodup)
    (hsw : swapsWith (.ListComp elt [⟨tg, iter, ifs, 0⟩] scope pos) (some (.Name y py)) spos.line X.env = pure true := by exact sw_true rfl rfl rfl (by decide +kernel)) (hyl : X.env.scope.names.lookup y = some .local := by rfl) (hc : X.calm = true := by rfl) (hv : ∀ i ∈ is, i ∈ own.map (·.2) := by decide)
    (hs : ∀ x, foldedSetIterable iter X.env x = pure x := by intro _; rfl) : PS X (.Assign [.Name y py] (.ListComp elt [⟨tg, iter, ifs, 0⟩] scope pos) spos) (tS (asgS i (eLc fi t c fe (own.map (·.2))))) :=
  PS.weak (ps_setLc hc hN hy hyl hsw hi ok hg ht he hs) fun D σ H h => lc_imp gd hv cd σ H _ (asg_imp h)
/-- a new list or dict for a slot -/
def NewD (te : TE) (f : En → Option PyData) : Prop := ∀ (G : Hp) (σ : St) (env : En) (d : PyData), EnvOk G σ env → f env = some d → ∀ H, Same G H → ∀ Q : VK, (∀ p G' H' o, Mv G H G' H' → H' p = none → OwnR G' (upd H' p o) p d → Q (.ref p) (upd H' p o)) → te σ H Q
theorem new_lst {fs : En → Option (List PyData)} : NewD (tLst (tDs fs)) (eLst fs) := by
  intro G σ env d ok h H s Q q
  obtain ⟨xs, h0, rfl⟩ := Option.map_eq_some_iff.mp h
  obtain ⟨ys, h1, h2⟩ := Option.bind_eq_some_iff.mp h0
  obtain ⟨rfl, hl⟩ := cap_some h2
  exact ⟨G, env, _, s, ok, h1, fun vs G1 H1 m1 d1 => ⟨size_ok (by rw [d1.length]; exact hl), fun p hp => q p G1 H1 _ m1 hp (.lst upd_same d1)⟩⟩
theorem new_rep : NewD (tOp rRep (tD fa) (tD fb)) (e2 pyRep fa fb) := by
  intro G σ env d ok h H s Q q
  obtain ⟨x, y, h1, h2, h3⟩ := e2_some h
  refine ⟨G, env, x, s, ok, h1, fun v1 G1 H1 m1 d1 => ⟨G1, env, y, m1.s, ok.mono m1.g, h2, fun v2 G2 H2 m2 d2 => ?_⟩⟩
  have d1 := d1.mono m2.g
  cases d1 with
  | lst ha ra =>
    cases ra with
    | nil => simp [pyRep] at h3
    | cons r1 r2 =>
      cases r2 with
      | cons r3 r4 => simp [pyRep] at h3
      | nil =>
        cases d2 <;> first | (simp [pyRep] at h3; done) | skip
        rename_i k
        simp only [pyRep] at h3
        split at h3
        · rename_i hc
          cases h3
          refine ⟨_, k, _, rfl, rfl, m2.s _ _ ha, by omega, by omega, size_ok (by simp only [List.length_cons, List.length_nil]; omega), fun p hp => ?_⟩
          rw [flat_one]
          exact q p _ _ _ (m1.trans m2) hp (.lst upd_same (DaAll.rep r1 k.toNat))
        · cases h3
  | _ => simp [pyRep] at h3
def eDic : En → Option PyData := fun _ => some (.dict [])
theorem new_dict : NewD tDNewK eDic := by
  intro G σ env d ok h H s Q q
  cases h
  exact fun p hp => q p G H _ (.refl s) hp (.dic upd_same .nil)
def asgN (i : Nat) (f : En → Option PyData) : Sm := fun env => (f (dats env)).map fun d => .nx (env.set i (.own d))
theorem s_new {i : Nat} {x : Str} {pos' : Pos} {te : TE} (hi : X.N[i]? = some x) (hx : Loc X.env.scope x) (he : PE X e te) (hn : NewD te f) (hN : X.N.Nodup) (hs : swapsWith e (some (.Name x pos')) pos.line X.env = pure false := by rfl) (hf : X.fn x = true ∨ X.env.scope.names.lookup x = some .local := by first | exact .inl rfl | exact .inr rfl | assumption) :
    PS X (.Assign [.Name x pos'] e pos) (tS (asgN i f)) := PS.weak (ps_set hN hi hx he hs hf) fun D σ H ⟨G0, H0, env, o, ⟨G, r⟩, h, q⟩ => by
  obtain ⟨d, h1, rfl⟩ := Option.map_eq_some_iff.mp h
  exact hn G σ (dats env) d r.ok h1 H r.mv.s _ fun p G' H' o m hp ow => q _ _ ⟨G', (r.move m).setO i hp ow⟩
/-- x, y = e1, e2 -/
def parS (i j : Nat) (f1 f2 : En → Option PyData) : Sm := fun env => (evS f1 env).bind fun p => (evS f2 p.2).bind fun q => some (.nx ((q.2.set i (.dat p.1)).set j (.dat q.1)))
theorem s_par {i j : Nat} {x y : Str} {px py pt : Pos} {kt k2 pt2} (hi : X.N[i]? = some x) (hj : X.N[j]? = some y) (hij : i ≠ j) (ha : PE X a (tD fa)) (hb : PE X b (tD fb)) (hN : X.N.Nodup) (hx : X.env.scope.names.lookup x = some .local := by rfl) (hy : X.env.scope.names.lookup y = some .local := by rfl)
    (hs1 : starEach [b] X.env = (false, eval b X.env) :: starEach [] X.env := by rfl) (hs2 : starEach [a, b] X.env = (false, eval a X.env) :: starEach [b] X.env := by rfl)
    (hw : swappedStores [.Tuple [.Name x px, .Name y py] kt pt] (.Tuple [a, b] k2 pt2) X.env = pure (some [x, y]) := by rfl) (hc : X.calm = true := by rfl)
    (hs : swapsWithSole [.Tuple [.Name x px, .Name y py] kt pt] (.Tuple [a, b] k2 pt2) pos.line X.env = pure false := by rfl) :
    PS X (.Assign [.Tuple [.Name x px, .Name y py] kt pt] (.Tuple [a, b] k2 pt2) pos) (tS (parS i j fa fb)) := PS.weak (ps_par hc hN hi hj hij hx hy (pa_cons ha (pa_cons hb pa_nil hs1) hs2) hw hs) fun D σ H ⟨G0, H0, env, o, ⟨G, r⟩, h, q⟩ => by
  obtain ⟨⟨d1, env1⟩, h1, h⟩ := Option.bind_eq_some_iff.mp h
  obtain ⟨⟨d2, env2⟩, h2, h⟩ := Option.bind_eq_some_iff.mp h
  cases h
  refine ev_run r h1 _ fun v1 G1 H1 s1 _ r1 rv1 => ?_
  refine ev_run r1 h2 _ fun v2 G2 H2 s2 _ r2 rv2 => ?_
  exact ⟨v1, v2, rfl, q _ _ ⟨G2, (r2.setD i (rv1.mono s2)).setD j rv2⟩⟩
/-- x, y = NEW, e2 -/
def parN (i j : Nat) (f1 f2 : En → Option PyData) : Sm := fun env => (f1 (dats env)).bind fun d1 => (f2 (dats env)).bind fun d2 => some (.nx ((env.set i (.own d1)).set j (.dat d2)))
theorem s_parN {i j : Nat} {x y : Str} {px py pt : Pos} {kt k2 pt2} {te : TE} (hi : X.N[i]? = some x) (hj : X.N[j]? = some y) (hij : i ≠ j) (ha : PE X a te) (hn : NewD te fa) (hb : PE X b (tD fb)) (hN : X.N.Nodup) (hx : X.env.scope.names.lookup x = some .local := by rfl) (hy : X.env.scope.names.lookup y = some .local := by rfl)
    (hs1 : starEach [b] X.env = (false, eval b X.env) :: starEach [] X.env := by rfl) (hs2 : starEach [a, b] X.env = (false, eval a X.env) :: starEach [b] X.env := by rfl)
    (hw : swappedStores [.Tuple [.Name x px, .Name y py] kt pt] (.Tuple [a, b] k2 pt2) X.env = pure (some [x, y]) := by rfl) (hc : X.calm = true := by rfl)
    (hs : swapsWithSole [.Tuple [.Name x px, .Name y py] kt pt] (.Tuple [a, b] k2 pt2) pos.line X.env = pure false := by rfl) :
    PS X (.Assign [.Tuple [.Name x px, .Name y py] kt pt] (.Tuple [a, b] k2 pt2) pos) (tS (parN i j fa fb)) := PS.weak (ps_par hc hN hi hj hij hx hy (pa_cons ha (pa_cons hb pa_nil hs1) hs2) hw hs) fun D σ H ⟨G0, H0, env, o, ⟨G, r⟩, h, q⟩ => by
  obtain ⟨d1, h1, h⟩ := Option.bind_eq_some_iff.mp h
  obtain ⟨d2, h2, h⟩ := Option.bind_eq_some_iff.mp h
  cases h
  refine hn G σ (dats env) d1 r.ok h1 H r.mv.s _ fun p G1 H1 o1 m1 hp ow => ?_
  have r1 := r.move m1
  have r2 := r1.extra (o := o1) hp
  refine ⟨G1, dats env, d2, r2.mv.s, r2.ok, h2, fun v G2 H2 m2 rv => ?_⟩
  have r3 := r2.move m2
  have hG2 : G2 p = none := m2.f p (r1.mv.s.free hp) ⟨o1, upd_same⟩
  have ow2 : OwnR G2 H2 p d1 := ow.move m2.g ((m2.h p o1 upd_same).trans upd_same.symm)
  exact ⟨_, v, rfl, q _ _ ⟨G2, (r3.setP i hG2 (r1.mv.h.free hp) ow2 (r1.news hp)).setD j rv⟩⟩
/-- targets on the slots -/
def GS (g : TG) (t : PyData → List Sl → Option (List Sl)) : Prop := ∀ (G0 H0 G H : Hp) (σ : St) (env : List Sl) (v : V) (d : PyData) (env' : List Sl), SR G0 H0 σ H env G → Da G v d → t d env = some env' → ∀ Q : St → Hp → Prop, (∀ σ', SR G0 H0 σ' H env' G → Q σ' H) → g v σ H Q
def sg1 (i : Nat) : PyData → List Sl → Option (List Sl) := fun d env => some (env.set i (.dat d))
theorem gs_1 (i : Nat) : GS (gName i) (sg1 i) := by
  intro G0 H0 G H σ env v d env' r rv h Q q
  cases h
  exact q _ (r.setD i rv)
def sgs : List Nat → List PyData → List Sl → Option (List Sl)
  | [], [], env => some env
  | i :: is, d :: ds, env => sgs is ds (env.set i (.dat d))
  | _, _, _ => none
def sgN (is : List Nat) : PyData → List Sl → Option (List Sl) := fun d env => match d with
  | .tuple ds => sgs is ds env
  | _ => none
def GSs (g : TGs) (is : List Nat) : Prop := ∀ (G0 H0 G H : Hp) (σ : St) (env : List Sl) (vs : List V) (ds : List PyData) (env' : List Sl), SR G0 H0 σ H env G → DaAll G vs ds → sgs is ds env = some env' → ∀ Q : St → Hp → Prop, (∀ σ', SR G0 H0 σ' H env' G → Q σ' H) → g vs σ H Q
theorem gss_nil : GSs gNil [] := by
  intro G0 H0 G H σ env vs ds env' r rv h Q q
  cases rv with
  | nil =>
    cases h
    exact ⟨rfl, q σ r⟩
  | cons _ _ => cases h
theorem gss_cons {i : Nat} {is : List Nat} {u : TGs} (h : GSs u is) : GSs (gCons (gName i) u) (i :: is) := by
  intro G0 H0 G H σ env vs ds env' r rv e Q q
  cases rv with
  | nil => cases e
  | cons r1 r2 => exact ⟨_, _, rfl, h G0 H0 G H _ _ _ _ env' (r.setD i r1) r2 e Q q⟩
theorem sgs_len : ∀ {is : List Nat} {ds : List PyData} {env env' : List Sl}, sgs is ds env = some env' → ds.length = is.length
  | [], [], _, _, _ => rfl
  | _ :: is, _ :: ds, _, _, h => by rw [List.length_cons, List.length_cons, sgs_len (is := is) (ds := ds) h]
  | [], _ :: _, _, _, h => by cases h
  | _ :: _, [], _, _, h => by cases h
theorem gs_N {K : PySem.W.Frag} {u : TGs} {n : Nat} {is : List Nat} (h : GSs u is) (hn : is.length = n) : GS (gTup K n u) (sgN is) := by
  intro G0 H0 G H σ env v d env' r rv e Q q
  cases rv with
  | tup ha ra =>
    have e : sgs is _ env = some env' := e
    exact ⟨_, _, rfl, SqT.of (r.mv.s _ _ ha), by rw [ra.length, sgs_len e, hn], h G0 H0 G H σ env _ _ env' r ra e Q q⟩
  | _ => cases e
/-- a, b = e -/
def unpS (t : PyData → List Sl → Option (List Sl)) (f : En → Option PyData) : Sm := fun env => (evS f env).bind fun p => (t p.1 p.2).map .nx
theorem s_unp {tg : Expr} {gt : TG} {t : PyData → List Sl → Option (List Sl)} (he : PE X e (tD f)) (hg : PG X tg gt) (gs : GS gt t) (hs : swapsWithSole [tg] e pos.line X.env = pure false := by rfl) (hw : swappedStores [tg] e X.env = pure none := by rfl) (h1 : (assignEach [tg] X.env).map (·.2) = [assign tg X.env] := by rfl) :
    PS X (.Assign [tg] e pos) (tS (unpS t f)) := PS.weak (ps_asg he hg hs hw h1) fun D σ H ⟨G0, H0, env, o, ⟨G, r⟩, h, q⟩ => by
  obtain ⟨⟨d, env1⟩, h1, h2⟩ := Option.bind_eq_some_iff.mp h
  obtain ⟨env2, h3, rfl⟩ := Option.map_eq_some_iff.mp h2
  exact ev_run r h1 _ fun v G' H' _ _ r' rv => gs G0 H0 G' H' σ env1 v d env2 r' rv h3 _ fun σ' r2 => q _ _ ⟨G', r2⟩
/-- x += e, ints -/
def augS (i : Nat) (f : En → Option PyData) : Sm := fun env => ((evS (eV i) env).bind fun p => asI p.1).bind fun a => (evS f env).bind fun p => (asI p.1).map fun b => .nx (p.2.set i (.dat (.int (a + b))))
theorem s_aug {i : Nat} {x : Str} {pos' : Pos} (hi : X.N[i]? = some x) (hx : Loc X.env.scope x) (he : PE X e (tD f)) (hN : X.N.Nodup) (hf : X.fn x = true ∨ X.env.scope.names.lookup x = some .local := by first | exact .inl rfl | exact .inr rfl | assumption) :
    PS X (.AugAssign (.Name x pos') .Add e pos) (tS (augS i f)) := PS.weak (ps_aug hN hi hx he ip_add hf) fun D σ H ⟨G0, H0, env, o, ⟨G, r⟩, h, q⟩ => by
  obtain ⟨a, h1, h⟩ := Option.bind_eq_some_iff.mp h
  obtain ⟨⟨d0, env0⟩, h2, h3⟩ := Option.bind_eq_some_iff.mp h1
  obtain ⟨⟨d, env1⟩, h4, h5⟩ := Option.bind_eq_some_iff.mp h
  obtain ⟨b, h6, rfl⟩ := Option.map_eq_some_iff.mp h5
  have hv : σ[i]? = some (some (.int a)) := by
    have e3 : d0 = .int a := asI_some h3
    subst e3
    have all : ∀ {q : PyData × List Sl}, evS (eV i) env = some q → ∃ d, q.1 = d ∧ (alls env)[i]? = some (some d) := fun {q} z => by
      unfold evS at z
      split at z
      · rename_i dd e
        cases z
        refine ⟨dd, rfl, ?_⟩
        have e := dats_get (eV_some e)
        unfold alls
        rw [List.getElem?_map, e]
        rfl
      · split at z
        · rename_i dd e
          cases z
          exact ⟨dd, rfl, eV_some e⟩
        · cases z
    obtain ⟨d, hd, ha⟩ := all h2
    obtain ⟨v, hv, rv⟩ := r.all.get i d ha
    have hd : PyData.int a = d := hd
    subst hd
    rw [rv.int'] at hv
    exact hv
  refine ⟨_, hv, ev_run r h4 _ fun v G' H' _ _ r' rv => ?_⟩
  have e6 : d = .int b := asI_some h6
  subst e6
  exact ⟨a, b, rfl, rv.int', q _ _ ⟨G', r'.setD i (.int _)⟩⟩
/-- l.append(e), l an own list -/
def lstS : Sl → Option (List PyData)
  | .own (.list ds) => some ds
  | _ => none
theorem lstS_some {s : Sl} {ds : List PyData} (h : lstS s = some ds) : s = .own (.list ds) := by
  match s, h with
  | .own (.list _), h => cases h; rfl
def appS (i : Nat) (f : En → Option PyData) : Sm := fun env => (env[i]?.bind lstS).bind fun ds => if ds.length < 100000 then (f (dats env)).map fun d => .nx (env.set i (.own (.list (ds ++ [d])))) else none
theorem own_at {G0 H0 G H : Hp} {σ : St} {env : List Sl} {i : Nat} {ds : List PyData} (r : SR G0 H0 σ H env G) (h : env[i]?.bind lstS = some ds) : env[i]? = some (.own (.list ds)) ∧ ∃ p xs, σ[i]? = some (some (.ref p)) ∧ G p = none ∧ H p = some (.lst xs) ∧ DaAll G xs ds := by
  obtain ⟨s, h1, h2⟩ := Option.bind_eq_some_iff.mp h
  rw [lstS_some h2] at h1
  obtain ⟨p, h3, h4, _, h5⟩ := r.own i _ h1
  cases h5 with
  | lst h6 h7 => exact ⟨h1, p, _, h3, h4, h6, h7⟩
theorem s_app {i : Nat} {o : Expr} {apos cpos : Pos} (ho : PE X o (tVar i)) (he : PE X e (tD f)) (hp : PE X (.Call (.Attribute o "append" apos) [e] [] cpos) (tBM X.K "list" rAppend (tVar i) (tCons (tD f) tNil))) (hs : swapsWith (.Call (.Attribute o "append" apos) [e] [] cpos) none pos.line X.env = pure false := by rfl) :
    PS X (.Expr (.Call (.Attribute o "append" apos) [e] [] cpos) pos) (tS (appS i f)) := PS.weak (ps_expr hp hs) fun D σ H ⟨G0, H0, env, oo, ⟨G, r⟩, h, q⟩ => by
  obtain ⟨ds, h1, h⟩ := Option.bind_eq_some_iff.mp h
  split at h
  · rename_i hl
    obtain ⟨d, h2, rfl⟩ := Option.map_eq_some_iff.mp h
    obtain ⟨hi, p, xs, hσ, hG, hH, ra⟩ := own_at r h1
    refine ⟨.ref p, hσ, .inl ⟨rfl, xs, SqL.of hH⟩, G, dats env, d, r.mv.s, r.ok, h2, fun v G' H' m rv => ?_⟩
    refine ⟨p, xs, v, rfl, rfl, m.h p _ hH, size_lt (by rw [ra.length]; exact hl), q _ _ ⟨G', (r.move m).change hi hσ (.lst upd_same ((ra.mono m.g).append (.one rv)))⟩⟩
  · cases h
/-- l[k] = e, l an own list -/
def stoS (i : Nat) (fk f : En → Option PyData) : Sm := fun env => (env[i]?.bind lstS).bind fun ds => (f (dats env)).bind fun d => ((fk (dats env)).bind asI).bind fun k => (ixN ds.length k).map fun j => .nx (env.set i (.own (.list (ds.set j d))))
theorem s_sto {i : Nat} {o k : Expr} {kpos : Pos} (he : PE X e (tD f)) (hg : PG X (.Subscript o k kpos) (gSub (tVar i) (tD fk) rSetL)) (hs : swapsWithSole [.Subscript o k kpos] e pos.line X.env = pure false := by rfl) (hw : swappedStores [.Subscript o k kpos] e X.env = pure none := by rfl) :
    PS X (.Assign [.Subscript o k kpos] e pos) (tS (stoS i fk f)) := PS.weak (ps_asg he hg hs hw) fun D σ H ⟨G0, H0, env, oo, ⟨G, r⟩, h, q⟩ => by
  obtain ⟨ds, h1, h⟩ := Option.bind_eq_some_iff.mp h
  obtain ⟨d, h2, h⟩ := Option.bind_eq_some_iff.mp h
  obtain ⟨kk, h3, h⟩ := Option.bind_eq_some_iff.mp h
  obtain ⟨dk, h4, h5⟩ := Option.bind_eq_some_iff.mp h3
  obtain ⟨j, h6, rfl⟩ := Option.map_eq_some_iff.mp h
  rw [asI_some h5] at h4
  obtain ⟨hi, p, xs, hσ, hG, hH, ra⟩ := own_at r h1
  refine ⟨G, dats env, d, r.mv.s, r.ok, h2, fun v G1 H1 m1 rv => ⟨.ref p, hσ, G1, dats env, _, m1.s, r.ok.mono m1.g, h4, fun w G2 H2 m2 rw' => ?_⟩⟩
  refine ⟨p, xs, kk, j, rfl, rw'.int', m2.h p _ (m1.h p _ hH), by rw [ra.length]; exact h6, q _ _ ⟨G2, ((r.move m1).move m2).change hi hσ (.lst upd_same (((ra.mono m1.g).mono m2.g).set (rv.mono m2.g) j))⟩⟩
/-- return e: what is own goes out too -/
def retS (f : En → Option PyData) : Sm := fun env => (f (alls env)).map .rt
theorem s_ret (he : PE X e (tD f)) : PS X (.Return (some e) pos) (tS (retS f)) := PS.weak (ps_ret he) fun D σ H ⟨G0, H0, env, oo, ⟨G, r⟩, h, q⟩ => by
  obtain ⟨d, h1, rfl⟩ := Option.map_eq_some_iff.mp h
  obtain ⟨G1, s1, r1⟩ := r.rel
  have ok := r1.ok
  rw [dats_relA] at ok
  exact ⟨G1, alls env, d, r1.mv.s, ok, h1, fun v G' H' m rv => q v G' H' (r1.mv.trans m) rv⟩
def ifS (c : En → Option Bool) (g1 g2 : Sm) : Sm := fun env => (c (alls env)).bind fun b => if b = true then g1 env else g2 env
theorem s_if {c : Expr} {u v : List Stmt} (hc : PT X c (tT ft)) (h1 : PSs X u (tS g1)) (h2 : PSs X v (tS g2)) : PS X (.If c u v pos) (tS (ifS ft g1 g2)) := PS.weak (ps_if hc h1 h2) fun D σ H ⟨G0, H0, env, o, r, h, q⟩ => by
  obtain ⟨b, h3, h4⟩ := Option.bind_eq_some_iff.mp h
  refine tt_run r h3 _ fun H' r' => ?_
  cases b with
  | true => exact iteT ⟨G0, H0, env, o, r', h4, q⟩
  | false => exact iteF ⟨G0, H0, env, o, r', h4, q⟩
/-- for t in e -/
def loopS (t : PyData → List Sl → Option (List Sl)) (g : Sm) : List PyData → List Sl → Option Out
  | [], env => some (.nx env)
  | d :: ds, env => (t d env).bind fun env' => (g env').bind fun o => match o with
    | .nx e => loopS t g ds e
    | .rt r => some (.rt r)
def itS (fi : En → Option (List PyData)) (env : List Sl) : Option (List PyData × List Sl) := match fi (dats env) with
  | some ds => some (ds, env)
  | none => (fi (alls env)).map fun ds => (ds, relA env)
def forS (fi : En → Option (List PyData)) (t : PyData → List Sl → Option (List Sl)) (g : Sm) : Sm := fun env => (itS fi env).bind fun p => loopS t g p.1 p.2
theorem it_run {fi : En → Option (List PyData)} {G0 H0 : Hp} {env env' : List Sl} {ds : List PyData} (r : SRx G0 H0 σ H env) (h : itS fi env = some (ds, env')) (R : It → Hp → Prop) (q : ∀ J G' H', SR G0 H0 σ H' env' G' → WalkD J G' ds → R J H') : tI fi σ H R := by
  obtain ⟨G, r⟩ := r
  unfold itS at h
  split at h
  · rename_i e
    cases h
    exact ⟨G, dats env, ds, r.mv.s, r.ok, e, fun J G' H' m w => q J G' H' (r.move m) w⟩
  · obtain ⟨ds', h1, h2⟩ := Option.map_eq_some_iff.mp h
    cases h2
    obtain ⟨G1, s1, r1⟩ := r.rel
    have ok := r1.ok
    rw [dats_relA] at ok
    exact ⟨G1, alls env, ds, r1.mv.s, ok, h1, fun J G' H' m w => q J G' H' (r1.move m) w⟩
theorem s_for {tg iter : Expr} {body : List Stmt} {fi : En → Option (List PyData)} {gt : TG} {t : PyData → List Sl → Option (List Sl)} (hp : PassesOwn (model X.prog X.w) X.A X.env X.xe) (hi : PI X tg iter (tI fi)) (hg : PG X tg gt) (gs : GS gt t) (hb : PSs X body (tS gb)) (hc : X.calm = true := by rfl) (hs : ∀ x, foldedSetIterable iter X.env x = pure x := by intro _; rfl) :
    PS X (.For tg iter body [] pos) (tS (forS fi t gb)) := PS.weak (ps_for hp hc hi hg hb hs) fun D σ H ⟨G0, H0, env, o, r, h, q⟩ => by
  obtain ⟨⟨ds, env1⟩, h1, h2⟩ := Option.bind_eq_some_iff.mp h
  refine it_run r h1 _ fun J G1 H1 r1 w => ?_
  refine for_it (n := ds.length) (G := Same G1) (Y := J.yld) ⟨w.go, w.stop, fun _ _ _ _ _ _ y => y⟩ (fun i σ' H' => ∃ env', SRx G1 H0 σ' H' env' ∧ loopS t gb (ds.drop i) env' = some o) ?_ ?_ ?_ ?_
  · exact ⟨env1, ⟨G1, r1.rebase⟩, h2⟩
  · rintro i σ' H' _ ⟨env', ⟨G', r'⟩, _⟩
    exact r'.mv.g.trans r'.mv.s
  · rintro i x σ2 H2 H3 hi' ⟨env', ⟨G2, r2⟩, h3⟩ y
    obtain ⟨G3, m3, rx⟩ := w.yld i H2 G2 x H3 ds[i] (by simp [hi']) r2.mv.g r2.mv.s y
    rw [List.drop_eq_getElem_cons hi'] at h3
    obtain ⟨env3, h4, h5⟩ := Option.bind_eq_some_iff.mp h3
    obtain ⟨o1, h6, h7⟩ := Option.bind_eq_some_iff.mp h5
    refine gs G1 H0 G3 H3 σ2 env' x ds[i] env3 (r2.move m3) rx h4 _ fun σ3 r3 => ⟨G1, H0, env3, o1, ⟨G3, r3⟩, h6, ?_⟩
    cases o1 with
    | nx e => exact fun σ4 H4 r4 => ⟨e, r4, h7⟩
    | rt d =>
      cases h7
      exact fun v G H m rv => q v G H (Mv.onto (G1 := G1) r1.mv m) rv
  · rintro σ' H' ⟨env', ⟨G', r'⟩, h3⟩
    rw [List.drop_length] at h3
    cases h3
    exact q σ' H' ⟨G', r'.unbase r1.mv⟩
/-- while c -/
def whl (c : En → Option Bool) (g : Sm) : Nat → List Sl → Option Out
  | 0, _ => none
  | n + 1, env => (c (alls env)).bind fun b => if b = true then (g env).bind fun o => match o with
    | .nx e => whl c g n e
    | .rt r => some (.rt r)
    else some (.nx env)
theorem s_while {c : Expr} {body : List Stmt} (n : Nat) (hp : PassesOwn (model X.prog X.w) X.A X.env X.xe) (hc : PT X c (tT ft)) (hb : PSs X body (tS gb)) : PS X (.While c body [] pos) (tS (whl ft gb n)) := PS.weak (ps_while hp hc hb) fun D σ H ⟨G0, H0, env, o, r, h, q⟩ => by
  refine ⟨fun m σ' H' => ∃ env', SRx G0 H0 σ' H' env' ∧ whl ft gb m env' = some o, ⟨n, env, r, h⟩, ?_⟩
  rintro m σ1 H1 ⟨env1, r1, h1⟩
  cases m with
  | zero => cases h1
  | succ m =>
    obtain ⟨b, h2, h3⟩ := Option.bind_eq_some_iff.mp h1
    refine tt_run r1 h2 _ fun H2 r2 => ?_
    cases b with
    | false =>
      rw [if_neg Bool.false_ne_true] at h3
      cases h3
      exact iteF (q σ1 H2 r2)
    | true =>
      rw [if_pos rfl] at h3
      obtain ⟨o1, h4, h5⟩ := Option.bind_eq_some_iff.mp h3
      refine iteT ⟨fun σ' H' => ∃ env', SRx G0 H0 σ' H' env' ∧ whl ft gb m env' = some o, fun σ' H' z => ⟨m, Nat.lt_succ_self _, z⟩, G0, H0, env1, o1, r2, h4, ?_⟩
      cases o1 with
      | nx e => exact fun σ3 H3 r3 => ⟨e, r3, h5⟩
      | rt d =>
        cases h5
        exact q

/-! ### defs -/
def spD (m : List PyData → Option PyData) : Sp := fun vs H Q _ => ∃ G ds d, Same G H ∧ DaAll G vs ds ∧ m ds = some d ∧ ∀ v G' H', Mv G H G' H' → Da G' v d → Q v H'
def startE (N : Nat) (ds : List PyData) : List Sl := ds.map .dat ++ List.replicate (N - ds.length) .no
def rtO : Out → Option PyData
  | .rt d => some d
  | .nx _ => none
theorem rtO_some {o : Out} {d : PyData} (h : rtO o = some d) : o = .rt d := by
  cases o <;> cases h
  rfl
/-- what a def with N names and n parameters gives -/
def runG (N n : Nat) (g : Sm) (ds : List PyData) : Option PyData := if ds.length = n then (g (startE N ds)).bind rtO else none
theorem envOk_start {G : Hp} {vs : List V} {ds : List PyData} (N : List Str) (r : DaAll G vs ds) : EnvOk G (L2.start N vs) (dats (startE N.length ds)) := by
  unfold L2.start startE dats
  refine ⟨by simp [r.length], fun i d h => ?_⟩
  rw [List.map_append, List.map_map] at h
  by_cases hi : i < ds.length
  · rw [List.getElem?_append_left (by simpa using hi), List.getElem?_map] at h
    obtain ⟨x, h1, h2⟩ := Option.map_eq_some_iff.mp h
    cases h2
    obtain ⟨v, h3, h4⟩ := r.get h1
    exact ⟨v, by rw [List.getElem?_append_left (by simp [r.length]; exact hi), List.getElem?_map, h3]; rfl, h4⟩
  · rw [List.getElem?_append_right (by simpa using hi), List.map_replicate, List.getElem?_replicate] at h
    split at h <;> cases h
theorem def_ok {P : Program} {w : World} {K : PySem.W.Frag} {mg : Str → Option Value} {base : Heap} {x qual : Str} {st : Stmt} {fa : Addr} {fd : FuncData} {N ps : List Str} {k : Nat} {g : Sm} (F : Fun K x qual st fa fd) (S : FnScope N ps (defScope st))
    (hb : ∀ (cdv : Value) (A : Around) (outer : List Env) (s : Shared) (H : Hp) (E : XK), Room k (A.deeper (envOfC qual (defScope st) s.heap.objs.size fa cdv)) → PSs (cxOf CX0 P w K mg base N qual (defScope st) fa cdv A outer s H E).nox (defBody st) (tS g)) :
    FnOk P w K mg base CX0 (k + 1) fa fd ps (spD (runG N.length ps.length g)) := by
  refine F.ok S (fun vs H Q E h => ?_) (fun cdv A outer s H vs Q E hr h => ⟨_, hb cdv A outer s H E hr, ?_⟩)
  · obtain ⟨G, ds, d, s, r, h, q⟩ := h
    unfold runG at h
    split at h
    · rename_i e
      rw [r.length, e]
    · cases h
  · obtain ⟨G, ds, d, s, r, h, q⟩ := h
    unfold runG at h
    split at h
    · obtain ⟨o, h1, h2⟩ := Option.bind_eq_some_iff.mp h
      rw [rtO_some h2] at h1
      have noown : ∀ (i : Nat) (e : PyData), (startE N.length ds)[i]? = some (.own e) → False := fun i e z => by
        unfold startE at z
        rw [List.getElem?_append] at z
        split at z
        · rw [List.getElem?_map] at z
          obtain ⟨_, _, z⟩ := Option.map_eq_some_iff.mp z
          cases z
        · rw [List.getElem?_replicate] at z
          split at z <;> cases z
      exact ⟨G, H, _, _, ⟨G, .refl s, envOk_start N r, fun i e z => (noown i e z).elim, fun i j e f p z => (noown i e z).elim⟩, h1, q⟩
    · cases h
theorem pd_call {CX : CXT} {x : Str} {k : Nat} {f : Addr} {fd : FuncData} {ps : List Str} {m : List PyData → Option PyData} {fs : En → Option (List PyData)} (F : FnOk X.prog X.w X.K X.mg X.base CX0 k f fd ps (spD m)) (hr : Room k X.A) (hm : X.mg x = some (.ref f)) (hk : PySem.W.keepIn X.K (.ref f) = true) (hb : Binds X.K fd ps [])
    (ha : PA X (e :: es) (tDs fs)) (hg : Gl X x := by rfl) (hdb : (x == ("__debug__" : Str)) = false := by decide) (he : starEach (e :: es) X.env = (false, eval e X.env) :: starEach es X.env := by rfl) (hpl : (backTo pos (starEach es X.env)).any (·.1) = false := by rfl) :
    PE X (.Call (.Name x p) (e :: es) [] pos) (tD (eF m fs)) := pd_of (pe_call F hr hg hm hk hb .nil pass0 ha hdb he hpl) fun G σ env d ok h H s Q q => by
  obtain ⟨ds, h1, h2⟩ := Option.bind_eq_some_iff.mp h
  refine ⟨G, env, ds, s, ok, h1, fun vs G1 H1 m1 d1 => ⟨G1, ds, d, m1.s, ?_, h2, fun v G2 H2 m2 d2 => q v G2 H2 (m1.trans m2) d2⟩⟩
  rw [List.append_nil]
  exact d1
end
end Sb
end
section
set_option Elab.async false
set_option linter.all false
set_option maxRecDepth 100000
set_option maxHeartbeats 2000000
/-! Sx5: enumerate of a tuple, zip of a tuple and a list, and the walks of enumerate and zip by data. -/
namespace Sb
open PySem PySem.Spec L2
open PyProof.Rows hiding St

/-! ### enumerate(tuple) -/
theorem meets_enumB {v : Value} {o : Obj} {W : Heap → Prop} (B : Begins v o W) :
    Meets (Builtin.«enumerate.__new__» ⟨[.type "enumerate", v], []⟩) (fun _ R s => W s.heap ∧
      R (.ok (.ret (.ref (s.heap.push o).objs.size))) { s with heap := (s.heap.push o).push { cls := .type "enumerate", data := .fields #[.none, .bool false, .ref s.heap.objs.size, rawInt 0, .none, .none] } }) := by
  refine Meets.of_wp fun prog w A R s h => ?_
  obtain ⟨hp, g, d, tk, os⟩ := s
  obtain ⟨h1, h⟩ := h
  have hsub := sub_enumerate
  have q1 : ∀ {A' : Around} {E : Value → Shared → Prop} {Q : Value → Shared → Prop}, Q (.ref hp.objs.size) ⟨hp.push o, g, d, tk, os⟩ → wpAny (model prog w) A' (pyIter v) Q E ⟨hp, g, d, tk, os⟩ := fun q =>
    B.iter prog w _ _ ⟨hp, g, d, tk, os⟩ _ h1 q
  wp_walk using q1
  refine wpAny_stack_any fun sk => wpAny_pure ?_
  split
  · rename_i c _ _ _ _ _
    cases (c == Value.type "enumerate") <;> (wp_walk using q1; exact ⟨_, rfl, h⟩)
  · wp_walk using q1
    exact ⟨_, rfl, h⟩
section
variable {prog : Program} {w : World} {A : Around} {E : Value → Shared → Prop} {s : Shared}
theorem call_enumB {v : Value} {o : Obj} {W : Heap → Prop} {Q : Value → Shared → Prop} (B : Begins v o W) (h1 : W s.heap)
    (h : ∀ h', IsEnum h' (s.heap.objs.size + 1) s.heap.objs.size 0 .none → h'.get? s.heap.objs.size = some o → (∀ b u, s.heap.get? b = some u → h'.get? b = some u) → Q (.ref (s.heap.objs.size + 1)) { s with heap := h' }) :
    wpAny (model prog w) A (call (.type "enumerate") [v]) Q E s := by
  refine callType_new F.called_enumerate (by decide) (F.typeCall_enumerate_1 _) (F.newCall_enumerate_1 _)
    (fun obj => F.args_object_init_2 obj _) F.entry_enumerate_new (meets_enumB B) ⟨h1, ?_⟩
  have hz : (s.heap.push o).objs.size = s.heap.objs.size + 1 := Heap.size_push ..
  have he : IsEnum ((s.heap.push o).push { cls := .type "enumerate", data := .fields #[.none, .bool false, .ref s.heap.objs.size, rawInt 0, .none, .none] })
      (s.heap.objs.size + 1) s.heap.objs.size 0 .none := by
    have q := Heap.get?_push_size (s.heap.push o) (o := { cls := .type "enumerate", data := .fields #[.none, .bool false, .ref s.heap.objs.size, rawInt 0, .none, .none] }) rfl
    rw [hz] at q
    exact q
  show _ ∧ _
  rw [hz]
  exact ⟨⟨_, he, rfl⟩, h _ he (Heap.get?_push_of_some _ (Heap.get?_push_size _ B.free)) fun b u x => Heap.get?_push_of_some _ (Heap.get?_push_of_some _ x)⟩
end
/-- the tuple at a, each item in a new pair -/
def IteT (K : PySem.W.Frag) (a : Addr) : It :=
  ⟨fun i H => ∃ (xs : List V) (x : V), SqT K H a xs ∧ xs[i]? = some x,
   fun i H v H' => ∃ T x, v = .ref T ∧ H T = none ∧ H' = upd H T (.tup [.int (i : Nat), x]) ∧ ∀ xs, SqT K H a xs → xs[i]? = some x,
   fun i H => ∃ xs : List V, SqT K H a xs ∧ xs.length = i⟩
theorem iter_ne {h : Heap} {a it : Addr} {i : Nat} {xs : Array Value} (h1 : h.IsTuple a xs) (h2 : h.IsTupleIter it a i) : a ≠ it := by
  rintro rfl
  obtain ⟨o, e1, c1, _⟩ := h1
  obtain ⟨u, e2, c2, _⟩ := h2
  rw [e1] at e2
  cases e2
  rw [c1] at c2
  simp at c2
theorem turn_enumT {P : Program} {w : World} {K : PySem.W.Frag} {elts : List Expr} {kk : Nat} {tpos : Pos} (a en ti : Addr) :
    Turn P w K (.Tuple elts kk tpos) (IteT K a) [en, ti] en (fun i h => (∃ old, IsEnum h en ti ((i : Nat) : Int) old) ∧ h.IsTupleIter ti a i ∧ en ≠ ti) where
  mem := by simp
  obj := fun i h ⟨⟨old, he⟩, ⟨o, ho, _, hd⟩, _⟩ b hb => by
    have hb' : b = en ∨ b = ti := by simpa using hb
    rcases hb' with rfl | rfl
    · exact ⟨_, he, fun v q => nomatch q⟩
    · exact ⟨o, ho, fun v q => by rw [hd] at q; cases q⟩
  keep := fun i h h' ⟨⟨old, he⟩, hi, hne⟩ k => ⟨⟨old, k en (by simp) _ he⟩, hi.at fun o q => k ti (by simp) o q, hne⟩
  self := fun A i s Q E ⟨⟨_, he⟩, _⟩ q => wpAny_pyIter_enum he q
  item := by
    intro X hP hw hK hc i pins s σ H E J hf st hg
    subst hP hw hK
    obtain ⟨⟨old, he⟩, hti, hne⟩ := st
    obtain ⟨xs, x, hq, hx⟩ := hg
    obtain ⟨its, rv, tp, hz⟩ := J.tuple hq
    have tp' : s.heap.IsTuple a its.toArray := tp
    obtain ⟨u, hu, ru⟩ := rv.get hx
    have hlen : i < its.toArray.size := by
      have := (List.getElem?_eq_some_iff.mp hu).1
      simpa using this
    have D := Draws.tuple (prog := X.prog) (w := X.w) (A := X.A.in1) (J.ok.hd hc) ti a (iter_ne tp' hti) its.toArray
    have hea : en ≠ a := by
      rintro rfl
      obtain ⟨o, e1, c1, _⟩ := tp'
      rw [he] at e1
      cases e1
      simp at c1
    refine wpAny_pyNext_enum_itemD D he ⟨hti, tp'⟩ hlen hne (by simp [hne, hea]) fun y h' tk hy ho st' hT hsz hk => ?_
    have ey : y = u := by
      have hu' : its.toArray[i]? = some u := by simpa using hu
      rw [hu'] at hy
      exact (Option.some.inj hy).symm
    subst ey
    have eni : en < s.heap.objs.size := Heap.lt_size he
    have tii : ti < s.heap.objs.size := by
      obtain ⟨_, q, _⟩ := hti
      exact Heap.lt_size q
    refine ⟨_, rfl, wpAny_letOwnedTupleGo_enum (s := { s with heap := h', toks := tk + 1 }) ho fun h2 he2 sb => ?_⟩
    have hT2 : h2.get? s.heap.objs.size = some { cls := .type "tuple", data := .seq #[.int i tk, y] } := (sb.2 _ (Nat.ne_of_gt eni)).trans hT
    have new : ObjOk X.prog X.w (upd H s.heap.objs.size (.tup [.int (i : Nat), x])) h2 s.heap.objs.size (.tup [.int (i : Nat), x]) :=
      ⟨by show 2 ≤ sizeLine; decide, [.int i tk, y], .cons ⟨_, rfl⟩ (.cons ru .nil), ⟨_, hT2, rfl, _, rfl⟩⟩
    have J1 : Inv X pins σ (upd H s.heap.objs.size (.tup [.int (i : Nat), x])) { s with heap := h2, toks := tk + 1 } :=
      J.turnedNew (ch := [en, ti]) (fun b ob hb q => (sb.2 b (fun z => hb (by simp [z]))).trans
        (hk b ob (fun z => hb (by simp [z])) (fun z => hb (by simp [z])) q)) hf (Nat.le_refl _) new
    refine ⟨.ref s.heap.objs.size, _, J1, rfl, ⟨_, x, rfl, J.hok.fresh (Nat.le_refl _), rfl, fun ys hy => by rw [J.tuple_inj hy hq]; exact hx⟩,
      ⟨⟨y, ?_⟩, st'.1.at fun o q => (sb.2 ti (Ne.symm hne)).trans q, hne⟩, fun b hb => ?_⟩
    · have e1 : ((i + 1 : Nat) : Int) = (i : Int) + 1 := by omega
      rw [e1]
      exact he2
    · have hb' : b < s.heap.objs.size := by
        have hb2 : b = en ∨ b = ti := by simpa using hb
        rcases hb2 with rfl | rfl
        · exact eni
        · exact tii
      rw [upd_ne (Nat.ne_of_lt hb')]
      exact (hf b hb).1
  done := by
    intro X hP hw hK hc i pins s σ H E J hf st hg
    subst hP hw hK
    obtain ⟨⟨old, he⟩, hti, hne⟩ := st
    obtain ⟨xs, hq, hx⟩ := hg
    obtain ⟨its, rv, tp, hz⟩ := J.tuple hq
    have tp' : s.heap.IsTuple a its.toArray := tp
    have hl : i = its.toArray.size := by
      rw [List.size_toArray, ← rv.length, hx]
    have D := Draws.tuple (prog := X.prog) (w := X.w) (A := X.A.in1) (J.ok.hd hc) ti a (iter_ne tp' hti) its.toArray
    obtain ⟨f0, f1, f2, f3, f4, f5⟩ := hf ti (by simp)
    refine wpAny_pyNext_enum_endD D he ⟨by rw [← hl]; exact hti, tp'⟩ fun h' eb => ⟨rfl, ?_⟩
    exact J.turned (t' := s.toks) (fun b o hb q => eb b o hb q) f0 f1 f3 f4 f5
section
variable {X : Cx} {e e2 : Expr} {ta : TA} {p pos tpos : Pos} {elts : List Expr} {kk : Nat}
def iEnumT (K : PySem.W.Frag) (ta : TA) : TI := fun σ H R => ta σ H fun vs H1 => ∃ a xs, vs = [.ref a] ∧ SqT K H1 a xs ∧ R (IteT K a) H1
theorem pi_enumT (hg : Gl X "enumerate") (hm : X.mg "enumerate" = none) (ha : PA X [e] ta) (hs : starEach [e] X.env = [(false, eval e X.env)] := by rfl) :
    PI X (.Tuple elts kk tpos) (.Call (.Name "enumerate" p) [e] [] pos) (iEnumT X.K ta) := by
  refine ⟨fun pins s σ H R I h => ?_⟩
  refine Call_ (ld_blt I hg hm boot_enumerate
    (PyProof.Rows.callWith_type1 (thn (ha.run pos pins s σ H _ I h) fun us s1 ⟨vs, H1, I1, r1, q1⟩ => ?_) hs rfl))
  obtain ⟨a, xs, rfl, hq, q⟩ := q1
  obtain ⟨u, rfl, ru⟩ := vals1 r1
  obtain rfl : u = Value.ref a := ru
  obtain ⟨its, rv, tp, hz⟩ := I1.tuple hq
  refine call_enumB (begins_tuple a its.toArray) tp fun h' he ho hk => wpAny_pyIter_enum he ?_
  have I2 : Inv X pins σ H1 { s1 with heap := h' } := I1.kept (t' := s1.toks) hk
  refine ⟨s1.heap.objs.size + 1, [s1.heap.objs.size + 1, s1.heap.objs.size], _, _, H1, rfl, I2,
    turn_enumT a (s1.heap.objs.size + 1) s1.heap.objs.size, ⟨⟨.none, he⟩, ⟨_, ho, rfl, rfl⟩, Nat.succ_ne_self _⟩, fun b hb => ?_, q⟩
  have hle : s1.heap.objs.size ≤ b := by
    have hb' : b = s1.heap.objs.size + 1 ∨ b = s1.heap.objs.size := by simpa using hb
    rcases hb' with rfl | rfl
    · exact Nat.le_succ _
    · exact Nat.le_refl _
  exact I1.fpOk hle (I1.hok.fresh hle)
end

/-! ### zip(tuple, list) -/
def ItzM (K : PySem.W.Frag) (a b : Addr) : It :=
  ⟨fun i H => ∃ (xs ys : List V) (x y : V), SqT K H a xs ∧ SqL K H b ys ∧ xs[i]? = some x ∧ ys[i]? = some y,
   fun i H v H' => ∃ T x y, v = .ref T ∧ H T = none ∧ H' = upd H T (.tup [x, y]) ∧ (∀ xs, SqT K H a xs → xs[i]? = some x) ∧ ∀ ys, SqL K H b ys → ys[i]? = some y,
   fun i H => ∃ xs ys : List V, SqT K H a xs ∧ SqL K H b ys ∧ i ≤ xs.length ∧ i ≤ ys.length ∧ (i = xs.length ∨ i = ys.length)⟩
theorem turn_zipM {P : Program} {w : World} {K : PySem.W.Frag} {elts : List Expr} {kk : Nat} {tpos : Pos} {a b z TI TO i1 i2 : Addr} (S : ZipSep2 z TI TO i1 i2 [i1, a] [i2, b]) :
    Turn P w K (.Tuple elts kk tpos) (ItzM K a b) [z, TI, TO, i1, i2] z
      (fun i h => IsZip h z TI TO .none ∧ IsTupOf2 h TI (.ref i1) (.ref i2) ∧ (∃ x y, IsTupOf2 h TO x y) ∧ h.IsTupleIter i1 a i ∧ h.IsListIter i2 b i) where
  mem := by simp
  obj := fun i h ⟨hz, hTI, ⟨x, y, hTO⟩, ⟨o1, e1, _, d1⟩, ⟨o2, e2, _, d2⟩⟩ c hc => by
    have hc' : c = z ∨ c = TI ∨ c = TO ∨ c = i1 ∨ c = i2 := by simpa using hc
    rcases hc' with rfl | rfl | rfl | rfl | rfl
    · exact ⟨_, hz, fun v q => nomatch q⟩
    · exact ⟨_, hTI, fun v q => nomatch q⟩
    · exact ⟨_, hTO, fun v q => nomatch q⟩
    · exact ⟨o1, e1, fun v q => by rw [d1] at q; cases q⟩
    · exact ⟨o2, e2, fun v q => by rw [d2] at q; cases q⟩
  keep := fun i h h' ⟨hz, hTI, ⟨x, y, hTO⟩, h1, h2⟩ k =>
    ⟨k z (by simp) _ hz, k TI (by simp) _ hTI, ⟨x, y, k TO (by simp) _ hTO⟩, h1.at fun o q => k i1 (by simp) o q, h2.at fun o q => k i2 (by simp) o q⟩
  self := fun A i s Q E st q => wpAny_pyIter_zip st.1 q
  item := by
    intro X hP hw hK hc i pins s σ H E J hf st hg
    subst hP hw hK
    obtain ⟨hz, hTI, ⟨x0, y0, hTO⟩, h1, h2⟩ := st
    obtain ⟨xs, ys, x, y, hqx, hqy, hx, hy⟩ := hg
    obtain ⟨its, rv, tp, _⟩ := J.tuple hqx
    obtain ⟨its2, rv2, tp2, _⟩ := J.list hqy
    have tp' : s.heap.IsTuple a its.toArray := tp
    obtain ⟨u, hu, ru⟩ := rv.get hx
    obtain ⟨u2, hu2, ru2⟩ := rv2.get hy
    have hh : X.A.in1.handled = none := J.ok.hd hc
    have D1 := Draws.tuple (prog := X.prog) (w := X.w) (A := X.A.in1) hh i1 a (iter_ne tp' h1) its.toArray
    have D2 := Draws.list (prog := X.prog) (w := X.w) (A := X.A.in1) hh i2 b (fun q => by
      obtain ⟨o, e1, c1, _⟩ := tp2.isList
      obtain ⟨o', e2, c2, _⟩ := h2
      rw [q, e2] at e1
      cases e1
      rw [c2] at c1
      simp at c1) its2.toArray
    have l1 : i < its.toArray.size := by simpa using (List.getElem?_eq_some_iff.mp hu).1
    have l2 : i < its2.toArray.size := by simpa using (List.getElem?_eq_some_iff.mp hu2).1
    have hzl : z < s.heap.objs.size := Heap.lt_size hz
    refine wpAny_pyNext_zipD2_item S D1 D2 hz hTI hTO ⟨h1, tp'⟩ ⟨h2, tp2.isList⟩ l1 l2 fun y1 y2 h' tk p1 p2 hz' hTO' st1 st2 hT hsz hk => ?_
    have ey1 : y1 = u := by
      have q : its.toArray[i]? = some u := by simpa using hu
      exact (Option.some.inj (q.symm.trans p1)).symm
    have ey2 : y2 = u2 := by
      have q : its2.toArray[i]? = some u2 := by simpa using hu2
      exact (Option.some.inj (q.symm.trans p2)).symm
    subst ey1 ey2
    refine ⟨_, rfl, wpAny_letOwnedTupleGo_zip (s := { s with heap := h', toks := tk }) hz' fun h3 hz3 sb => ?_⟩
    have hT2 : h3.get? s.heap.objs.size = some { cls := .type "tuple", data := .seq #[y1, y2] } := (sb.2 _ (Nat.ne_of_gt hzl)).trans hT
    have new : ObjOk X.prog X.w (upd H s.heap.objs.size (.tup [x, y])) h3 s.heap.objs.size (.tup [x, y]) :=
      ⟨by show 2 ≤ sizeLine; decide, [y1, y2], .cons ru (.cons ru2 .nil), ⟨_, hT2, rfl, _, rfl⟩⟩
    have J1 : Inv X pins σ (upd H s.heap.objs.size (.tup [x, y])) { s with heap := h3, toks := tk } :=
      J.turnedNew (ch := [z, TI, TO, i1, i2]) (fun c o hb q => (sb.2 c (fun q' => hb (by simp [q']))).trans
        (hk c o (fun q' => hb (by simp [q'])) (fun q' => hb (by simp [q'])) (fun q' => hb (by simp [q'])) (fun q' => hb (by simp [q'])) q)) hf (Nat.le_refl _) new
    refine ⟨.ref s.heap.objs.size, _, J1, rfl, ⟨_, x, y, rfl, J.hok.fresh (Nat.le_refl _), rfl, fun l hl => by rw [J.tuple_inj hl hqx]; exact hx, fun l hl => by rw [J.list_inj hl hqy]; exact hy⟩,
      ⟨hz3, (sb.2 _ S.TIz).trans (hk _ _ S.TIz S.TITO S.TIi1 S.TIi2 hTI), ⟨y1, y2, (sb.2 _ S.TOz).trans hTO'⟩, st1.1.at fun o q => (sb.2 _ S.zi1.symm).trans q, st2.1.at fun o q => (sb.2 _ S.zi2.symm).trans q⟩, fun c hcm => ?_⟩
    have hlt : c < s.heap.objs.size := by
      have hc' : c = z ∨ c = TI ∨ c = TO ∨ c = i1 ∨ c = i2 := by simpa using hcm
      rcases hc' with rfl | rfl | rfl | rfl | rfl
      · exact hzl
      · exact Heap.lt_size hTI
      · exact Heap.lt_size hTO
      · obtain ⟨_, q, _⟩ := h1
        exact Heap.lt_size q
      · obtain ⟨_, q, _⟩ := h2
        exact Heap.lt_size q
    rw [upd_ne (Nat.ne_of_lt hlt)]
    exact (hf c hcm).1
  done := by
    intro X hP hw hK hc i pins s σ H E J hf st hg
    subst hP hw hK
    obtain ⟨hz, hTI, ⟨x0, y0, hTO⟩, h1, h2⟩ := st
    obtain ⟨xs, ys, hqx, hqy, g1, g2, g3⟩ := hg
    obtain ⟨its, rv, tp, _⟩ := J.tuple hqx
    obtain ⟨its2, rv2, tp2, _⟩ := J.list hqy
    have tp' : s.heap.IsTuple a its.toArray := tp
    have hh : X.A.in1.handled = none := J.ok.hd hc
    have D1 := Draws.tuple (prog := X.prog) (w := X.w) (A := X.A.in1) hh i1 a (iter_ne tp' h1) its.toArray
    have D2 := Draws.list (prog := X.prog) (w := X.w) (A := X.A.in1) hh i2 b (fun q => by
      obtain ⟨o, e1, c1, _⟩ := tp2.isList
      obtain ⟨o', e2, c2, _⟩ := h2
      rw [q, e2] at e1
      cases e1
      rw [c2] at c1
      simp at c1) its2.toArray
    have n1 : its.toArray.size = xs.length := by rw [List.size_toArray, rv.length]
    have n2 : its2.toArray.size = ys.length := by rw [List.size_toArray, rv2.length]
    refine wpAny_pyNext_zipD2_end S D1 D2 hz hTI hTO ⟨h1, tp'⟩ ⟨h2, tp2.isList⟩ (by omega) (by omega) (by omega) fun h' tk hk => ⟨rfl, ?_⟩
    exact J.turnedL (ch := [z, TI, TO, i1, i2]) (fun c o hb q =>
      hk c o (fun q' => hb (by simp [q'])) (fun q' => hb (by simp [q'])) (fun q' => hb (by simp [q'])) (fun q' => hb (by simp [q'])) q) hf
section
variable {X : Cx} {e e2 : Expr} {ta : TA} {p pos tpos : Pos} {elts : List Expr} {kk : Nat} {fa fb : En → Option PyData}
def iZipM (K : PySem.W.Frag) (ta : TA) : TI := fun σ H R => ta σ H fun vs H1 => ∃ a b xs ys, vs = [.ref a, .ref b] ∧ SqT K H1 a xs ∧ SqL K H1 b ys ∧ R (ItzM K a b) H1
theorem pi_zipM (hg : Gl X "zip") (hm : X.mg "zip" = none) (ha : PA X [e, e2] ta)
    (hs : starEach [e, e2] X.env = (false, eval e X.env) :: starEach [e2] X.env := by rfl) (hpl : (backTo pos (starEach [e2] X.env)).any (·.1) = false := by rfl) :
    PI X (.Tuple elts kk tpos) (.Call (.Name "zip" p) [e, e2] [] pos) (iZipM X.K ta) := by
  refine ⟨fun pins s σ H R I h => ?_⟩
  refine Call_ (ld_blt I hg hm boot_zip
    (PyProof.Rows.callWith_type1 (thn (ha.run pos pins s σ H _ I h) fun us s1 ⟨vs, H1, I1, r1, q1⟩ => ?_) hs hpl))
  obtain ⟨a, b, xs, ys, rfl, hqx, hqy, q⟩ := q1
  obtain ⟨u, u', rfl, ru, ru'⟩ := vals2 r1
  obtain rfl : u = Value.ref a := ru
  obtain rfl : u' = Value.ref b := ru'
  obtain ⟨its, rv, tp, _⟩ := I1.tuple hqx
  obtain ⟨its2, rv2, tp2, _⟩ := I1.list hqy
  refine zip_begins2 (begins_tuple a its.toArray) (begins_list b its2.toArray) tp tp2.isList fun h' hz hTI hTO ho1 ho2 hsz hk => wpAny_pyIter_zip hz ?_
  have I2 : Inv X pins σ H1 { s1 with heap := h' } := I1.kept (t' := s1.toks) hk
  have la : a < s1.heap.objs.size := by
    obtain ⟨_, q, _⟩ := (show s1.heap.IsTuple a its.toArray from tp)
    exact Heap.lt_size q
  have lb : b < s1.heap.objs.size := by
    obtain ⟨_, q, _⟩ := tp2.isList
    exact Heap.lt_size q
  refine ⟨s1.heap.objs.size + 4, [s1.heap.objs.size + 4, s1.heap.objs.size + 2, s1.heap.objs.size + 3, s1.heap.objs.size, s1.heap.objs.size + 1], _, _, H1, rfl, I2,
    turn_zipM (zip_sep2 (N := s1.heap.objs.size) (fp1 := [a]) (fp2 := [b]) (by simpa using la) (by simpa using lb)), ⟨hz, hTI, ⟨_, _, hTO⟩, ⟨_, ho1, rfl, rfl⟩, ⟨_, ho2, rfl, rfl⟩⟩, fun c hc => ?_, q⟩
  have hle : s1.heap.objs.size ≤ c := by
    have hc' : c = s1.heap.objs.size + 4 ∨ c = s1.heap.objs.size + 2 ∨ c = s1.heap.objs.size + 3 ∨ c = s1.heap.objs.size ∨ c = s1.heap.objs.size + 1 := by simpa using hc
    rcases hc' with rfl | rfl | rfl | rfl | rfl
    · exact Nat.le_add_right _ _
    · exact Nat.le_add_right _ _
    · exact Nat.le_add_right _ _
    · exact Nat.le_refl _
    · exact Nat.le_add_right _ _
  exact I1.fpOk hle (I1.hok.fresh hle)

/-! ### by data -/
def enumFrom (k : Nat) : List PyData → List PyData
  | [] => []
  | d :: ds => .tuple [.int (k : Nat), d] :: enumFrom (k + 1) ds
theorem enumFrom_length : ∀ (k : Nat) (ds : List PyData), (enumFrom k ds).length = ds.length
  | _, [] => rfl
  | k, _ :: ds => by
    show (enumFrom (k + 1) ds).length + 1 = ds.length + 1
    rw [enumFrom_length (k + 1) ds]
theorem enumFrom_get : ∀ (k : Nat) (ds : List PyData) (i : Nat) (e : PyData), (enumFrom k ds)[i]? = some e → ∃ d, ds[i]? = some d ∧ e = .tuple [.int ((k + i : Nat)), d]
  | _, [], i, e, h => by simp [enumFrom] at h
  | k, d :: ds, 0, e, h => ⟨d, rfl, (Option.some.inj h).symm⟩
  | k, d :: ds, i + 1, e, h => by
    obtain ⟨x, h1, h2⟩ := enumFrom_get (k + 1) ds i e h
    exact ⟨x, h1, by rw [h2, show k + 1 + i = k + (i + 1) by omega]⟩
theorem walk_enumT {K : PySem.W.Frag} {a : Addr} {xs : List V} : Walk (IteT K a) xs.length (fun H => SqT K H a xs) (YPair (fun i => some (.int (i : Nat))) (fun i => xs[i]?)) := by
  refine ⟨fun i _ hi q => ⟨xs, xs[i], q, by simp [hi]⟩, fun _ q => ⟨xs, q, rfl⟩, fun i H v H' _ q y => ?_⟩
  obtain ⟨T, x, h1, h2, h3, h4⟩ := y
  exact ⟨T, .int (i : Nat), x, h1, h2, h3, rfl, h4 xs q⟩
theorem walk_zipM {K : PySem.W.Frag} {a b : Addr} {xs ys : List V} {n : Nat} (hn : n = min xs.length ys.length) : Walk (ItzM K a b) n (fun H => SqT K H a xs ∧ SqL K H b ys) (YPair (fun i => xs[i]?) (fun i => ys[i]?)) := by
  subst hn
  refine ⟨fun i _ hi q => ?_, fun _ q => ⟨xs, ys, q.1, q.2, by omega, by omega, by omega⟩, fun i H v H' _ q y => ?_⟩
  · have h1 : i < xs.length := by omega
    have h2 : i < ys.length := by omega
    exact ⟨xs, ys, xs[i], ys[i], q.1, q.2, by simp [h1], by simp [h2]⟩
  · obtain ⟨T, x, z, h1, h2, h3, h4, h5⟩ := y
    exact ⟨T, x, z, h1, h2, h3, h4 xs q.1, h5 ys q.2⟩
theorem enum_turn {G G1 H H' : Hp} {v : V} {i : Nat} {xs : List V} {a : List PyData} {d : PyData} (ra : DaAll G xs a) (hd : (enumFrom 0 a)[i]? = some d) (s1 : Same G G1) (s2 : Same G1 H)
    (y : YPair (fun i => some (.int (i : Nat))) (fun i => xs[i]?) i H v H') : ∃ G', Mv G1 H G' H' ∧ Da G' v d := by
  obtain ⟨T, x, z, rfl, hT, rfl, h1, h2⟩ := y
  obtain ⟨dx, h3, rfl⟩ := enumFrom_get 0 a i d hd
  obtain ⟨u, h5, h6⟩ := ra.get h3
  obtain rfl := Option.some.inj (h2.symm.trans h5)
  obtain rfl := Option.some.inj h1
  rw [Nat.zero_add]
  exact ⟨_, Mv.pair s2 hT (.int _) (h6.mono s1)⟩
theorem walkD_enumL {K : PySem.W.Frag} {G : Hp} {a : Addr} {xs : List V} {ds : List PyData} (h : G a = some (.lst xs)) (r : DaAll G xs ds) : WalkD (Ite K a) G (enumFrom 0 ds) :=
  walkD_of (walk_enum (xs := xs)) (by rw [enumFrom_length, r.length]) (fun H s => SqL.of (s _ _ h)) fun i H G1 x H' d hd s1 s2 y => enum_turn r hd s1 s2 y
theorem walkD_enumT {K : PySem.W.Frag} {G : Hp} {a : Addr} {xs : List V} {ds : List PyData} (h : G a = some (.tup xs)) (r : DaAll G xs ds) : WalkD (IteT K a) G (enumFrom 0 ds) :=
  walkD_of (walk_enumT (xs := xs)) (by rw [enumFrom_length, r.length]) (fun H s => SqT.of (s _ _ h)) fun i H G1 x H' d hd s1 s2 y => enum_turn r hd s1 s2 y
theorem walkD_zipM {K : PySem.W.Frag} {G : Hp} {a b : Addr} {xs ys : List V} {ds es : List PyData} (h : G a = some (.tup xs)) (r : DaAll G xs ds) (h' : G b = some (.lst ys)) (r' : DaAll G ys es) : WalkD (ItzM K a b) G (zipD ds es) :=
  walkD_of (walk_zipM (xs := xs) (ys := ys) rfl) (by simp [zipD, r.length, r'.length]) (fun H s => ⟨SqT.of (s _ _ h), SqL.of (s _ _ h')⟩) fun i H G1 x H' d hd s1 s2 y => zip_turn r r' hd s1 s2 y
def iE (f : En → Option PyData) : En → Option (List PyData) := fun env => ((f env).bind items).map (enumFrom 0)
theorem di_enum (ha : PE X e (tD fa)) (hm : X.mg "enumerate" = none) (hg : Gl X "enumerate" := by rfl) (hs : starEach [e] X.env = [(false, eval e X.env)] := by rfl) :
    PI X (.Tuple elts kk tpos) (.Call (.Name "enumerate" p) [e] [] pos) (tI (iE fa)) :=
  PI.weak (PI.or (pi_enum hg hm (pa_cons ha pa_nil hs) hs) (pi_enumT hg hm (pa_cons ha pa_nil hs) hs)) fun σ H R ⟨G, env, ds, s, ok, h, q⟩ => by
    obtain ⟨es, h1, rfl⟩ := Option.map_eq_some_iff.mp h
    obtain ⟨d, h2, h3⟩ := Option.bind_eq_some_iff.mp h1
    cases d with
    | list l =>
      cases h3
      refine .inl ⟨G, env, _, s, ok, h2, fun v G1 H1 m1 d1 => ?_⟩
      cases d1 with
      | lst ha r => exact ⟨_, _, rfl, SqL.of (m1.s _ _ ha), q _ G1 H1 m1 (walkD_enumL ha r)⟩
    | tuple l =>
      cases h3
      refine .inr ⟨G, env, _, s, ok, h2, fun v G1 H1 m1 d1 => ?_⟩
      cases d1 with
      | tup ha r => exact ⟨_, _, rfl, SqT.of (m1.s _ _ ha), q _ G1 H1 m1 (walkD_enumT ha r)⟩
    | _ => cases h3
def zipK : PyData → PyData → Option (List PyData)
  | .list a, .list b => some (zipD a b)
  | .tuple a, .tuple b => some (zipD a b)
  | .tuple a, .list b => some (zipD a b)
  | _, _ => none
def iZ (f g : En → Option PyData) : En → Option (List PyData) := fun env => (f env).bind fun a => (g env).bind fun b => zipK a b
theorem di_zip (ha : PE X e (tD fa)) (hb : PE X e2 (tD fb)) (hm : X.mg "zip" = none) (hg : Gl X "zip" := by rfl)
    (hs1 : starEach [e2] X.env = (false, eval e2 X.env) :: starEach [] X.env := by rfl)
    (hs : starEach [e, e2] X.env = (false, eval e X.env) :: starEach [e2] X.env := by rfl) (hpl : (backTo pos (starEach [e2] X.env)).any (·.1) = false := by rfl) :
    PI X (.Tuple elts kk tpos) (.Call (.Name "zip" p) [e, e2] [] pos) (tI (iZ fa fb)) :=
  PI.weak (PI.or (RZ.pi_zipA hg hm (pa_cons ha (pa_cons hb pa_nil hs1) hs) hs hpl) (pi_zipM hg hm (pa_cons ha (pa_cons hb pa_nil hs1) hs) hs hpl)) fun σ H R ⟨G, env, ds, s, ok, h, q⟩ => by
    obtain ⟨d, h1, h2⟩ := Option.bind_eq_some_iff.mp h
    obtain ⟨d', h3, h4⟩ := Option.bind_eq_some_iff.mp h2
    unfold zipK at h4
    split at h4
    · cases h4
      refine .inl ⟨G, env, _, s, ok, h1, fun v G1 H1 m1 d1 => ⟨G1, env, _, m1.s, ok.mono m1.g, h3, fun w G2 H2 m2 d2 => ?_⟩⟩
      have d1 := d1.mono m2.g
      cases d1 with
      | lst ha r =>
        cases d2 with
        | lst hb r2 => exact ⟨_, _, _, _, rfl, .inl ⟨SqL.of (m2.s _ _ ha), SqL.of (m2.s _ _ hb), q _ G2 H2 (m1.trans m2) (walkD_zipL ha r hb r2)⟩⟩
    · cases h4
      refine .inl ⟨G, env, _, s, ok, h1, fun v G1 H1 m1 d1 => ⟨G1, env, _, m1.s, ok.mono m1.g, h3, fun w G2 H2 m2 d2 => ?_⟩⟩
      have d1 := d1.mono m2.g
      cases d1 with
      | tup ha r =>
        cases d2 with
        | tup hb r2 => exact ⟨_, _, _, _, rfl, .inr ⟨SqT.of (m2.s _ _ ha), SqT.of (m2.s _ _ hb), q _ G2 H2 (m1.trans m2) (walkD_zipT ha r hb r2)⟩⟩
    · cases h4
      refine .inr ⟨G, env, _, s, ok, h1, fun v G1 H1 m1 d1 => ⟨G1, env, _, m1.s, ok.mono m1.g, h3, fun w G2 H2 m2 d2 => ?_⟩⟩
      have d1 := d1.mono m2.g
      cases d1 with
      | tup ha r =>
        cases d2 with
        | lst hb r2 => exact ⟨_, _, _, _, rfl, SqT.of (m2.s _ _ ha), SqL.of (m2.s _ _ hb), q _ G2 H2 (m1.trans m2) (walkD_zipM ha r hb r2)⟩
    · cases h4
end
end Sb
end
section
set_option Elab.async false
set_option linter.all false
set_option maxRecDepth 100000
set_option maxHeartbeats 2000000
/-! Sx6: tuple * n, repr, sets of ints met once, list(d.values()), dicts by data. -/
namespace Sb
open PySem PySem.Spec L2
open PyProof.Rows hiding St

/-! ### (x,) * n -/
theorem tuple_mul1 (l : Addr) (its : Array Value) (n : Nat) (dd : Option Addr) (sl : Array (Option Value)) (u : Tok) :
    Meets (Builtin.«tuple.__mul__» ⟨[.ref l, .int 1 u], []⟩) (fun _ R s => s.heap.get? l = some { cls := .type "tuple", dict := dd, data := .seq its n, slots := sl } ∧ R (.ok (.ret (.ref l))) s) :=
  .of_wp fun prog w A R s h => by
    obtain ⟨hp, g, d, tk, os⟩ := s
    obtain ⟨hl, h⟩ := h
    have f1 := AutoSeq1.idx_int
    have c1 : (its.isEmpty || (1 : Int) == 1) = true := by simp
    wp_walk using wpAny_loadPart' hl
    repeat (first
      | (refine wpAny_ite_false (decide_eq_false (by decide)) ?_; wp_walk using wpAny_loadPart' hl)
      | (refine wpAny_ite_true (decide_eq_true (by rw [c1])) ?_; wp_walk using wpAny_loadPart' hl))
    exact ⟨_, rfl, h⟩
def rRep1 (K : PySem.W.Frag) : R2 := fun x y H Q => ∃ l xs, x = .ref l ∧ y = .int 1 ∧ SqT K H l xs ∧ Q (.ref l) H
theorem op_rep1 {X : Cx} : OpR X (binaryOp .Mult) (rRep1 X.K) := by
  intro pins s σ H x y v u Q J rx ry h
  obtain ⟨l, xs, rfl, rfl, hT, q⟩ := h
  obtain rfl : v = Value.ref l := rx
  obtain ⟨t, rfl⟩ := ry
  obtain ⟨its, r, ⟨⟨cls, dd, data, sl⟩, ho, hc, n, hd⟩, hs⟩ := J.tuple hT
  simp only at hc hd
  subst hc hd
  refine wpAny_binaryOp_repeat_ref (T := "tuple") (U := "int") (by decide) ⟨_, ho, rfl⟩ (fun s' => typeIs_int s' 1 t) noFill_tuple_mul F.fills_int_mul F.slot_int_rmul repeat_tuple F.slot_int_index.lookup
    (call_meets F.slot_int_rmul (typeIs_int s 1 t) F.entry_int_rmul (F.args_int_rmul_2 _ _) (int_rmul_tuple 1 t l its.toArray n dd sl)
      ⟨ho, rfl, ⟨_, ho, rfl⟩, call_meets F.slot_tuple_mul ⟨_, ho, rfl⟩ F.entry_tuple_mul (F.args_tuple_mul_2 _ _) (tuple_mul1 l its.toArray n dd sl t) ⟨ho, ?_⟩⟩)
  exact ⟨.ref l, H, J, rfl, q⟩
def pyRepT : PyData → PyData → Option PyData
  | .tuple [x], .int k => if 1 ≤ k ∧ k ≤ 1000 then some (.tuple (List.replicate k.toNat x)) else none
  | _, _ => none
def rRepTA (K : PySem.W.Frag) : R2 := fun x y H Q => rRep1 K x y H Q ∨ rRepT K x y H Q
theorem op_repTA {X : Cx} : OpR X (binaryOp .Mult) (rRepTA X.K) := op_rep1.or op_repT
theorem rd_repT {K : PySem.W.Frag} : RD (rRepTA K) pyRepT := by
  intro G H x y dx dy d s hx hy h Q q
  cases hx with
  | tup ha ra =>
    cases ra with
    | nil => simp [pyRepT] at h
    | cons r1 r2 =>
      cases r2 with
      | cons r3 r4 => simp [pyRepT] at h
      | nil =>
        cases hy <;> first | (simp [pyRepT] at h; done) | skip
        rename_i k
        simp only [pyRepT] at h
        split at h
        · rename_i hc
          cases h
          by_cases h1 : k = 1
          · subst h1
            exact .inl ⟨_, _, rfl, rfl, SqT.of (s _ _ ha), q _ G H (.refl s) (.tup ha (.one r1))⟩
          · refine .inr ⟨_, k, _, rfl, rfl, SqT.of (s _ _ ha), by simp, by omega, by omega, by simp, fun p hp => ?_⟩
            rw [flat_one]
            exact q _ _ _ (.new s hp) (Mv.tup s hp (DaAll.rep r1 k.toNat))
        · cases h
  | _ => simp [pyRepT] at h

/-! ### repr of a list or tuple -/
def isSeq : PyData → Bool
  | .list _ => true
  | .tuple _ => true
  | _ => false
def rRepr (K : PySem.W.Frag) : List V → Hp → VK → Prop := fun xs H Q => ∃ x d, xs = [x] ∧ Dp K H x d ∧ isSeq d = true ∧ d.showable = true ∧ d.hasDict = false ∧ d.depth ≤ 60 ∧ d.shown.length ≤ sizeLine ∧ Q (.str d.shown) H
theorem cr_repr {X : Cx} (hg : X.A.guards = some []) (hu : X.A.units + 64 < cLine) : CallR X (.builtin "repr") (rRepr X.K) := by
  intro pins s σ H xs us Q J r h
  obtain ⟨x, d, rfl, hd, hq, hs, hn, hdp, hsz, q⟩ := h
  obtain ⟨u, rfl, ru⟩ := vals1 r
  obtain ⟨as, rd⟩ := Dp.reads J d x u hd ru
  have fin : ∀ a, u = .ref a → wpAny (model X.prog X.w) X.A (call (.builtin "repr") [u]) (EP X pins σ Q) X.xe s := fun a e => by
    subst e
    exact repr_of_reads' rd hs (PyData.noDict_hsm hn) hg (by omega) (fun _ _ e => e) (fun h' t tk hk => ⟨.str d.shown, H, J.kept hk, ⟨t, rfl⟩, q⟩) hsz
  cases rd <;> first | (cases hq; done) | exact fin _ rfl
def pyRepr : List PyData → Option PyData := fun ds => (one? ds).bind fun d => if isSeq d = true ∧ PyData.canLay0 d = true ∧ d.showable = true ∧ d.depth ≤ 60 ∧ d.shown.length ≤ sizeLine then some (.str d.shown) else none
theorem rd_repr {K : PySem.W.Frag} : RDs (rRepr K) pyRepr := by
  intro G H vs ds d s r h Q q
  obtain ⟨x, h1, h2⟩ := Option.bind_eq_some_iff.mp h
  split at h2
  · rename_i hc
    cases h2
    rw [one?_some h1] at r
    obtain ⟨v, rfl, rv⟩ := r.one'
    exact ⟨v, x, rfl, (rv.mono s).toDp hc.2.1, hc.1, hc.2.2.1, PyData.hasDict_of_canLay x hc.2.1, hc.2.2.2.1, hc.2.2.2.2, q _ G H (.refl s) (.str _)⟩
  · cases h2

/-! ### len(set(list)), sorted(set(tuple)) -/
section
variable {X : Cx} {a e : Expr} {fa : En → Option PyData} {p p2 pos q : Pos}
def metI (ns : List Int) : List Int := firstMet (fun i => ns.getD i 0) ns.length
def tLenSetA (K : PySem.W.Frag) (ta : TE) : TE := fun σ H Q => ta σ H fun x H1 => ∃ (l : Addr) (ns : List Int), x = V.ref l ∧ SqL K H1 l (ns.map V.int) ∧ ns.length ≤ 1000 ∧ Q (.int (metI ns).length) H1
theorem pe_lenSetA {ta : TE} (hg : Gl X "len") (hm : X.mg "len" = none) (hg2 : Gl X "set") (hm2 : X.mg "set" = none) (ha : PE X a ta) (hc : X.calm = true := by rfl)
    (na : starEach [a] X.env = (false, eval a X.env) :: starEach [] X.env := by rfl) : PE X (.Call (.Name "len" p) [.Call (.Name "set" p2) [a] [] q] [] pos) (tLenSetA X.K ta) := by
  refine ⟨fun pins s σ H Q J h => Call_ (ld_blt J hg hm boot_len
    (callWith_builtin1 (args_cons (Call_ (ld_blt J hg2 hm2 boot_set ?_)) rfl) rfl rfl))⟩
  refine callWith_type1 (args_cons (thn (ha.run pins s σ H _ J h) fun v s1 ⟨x, H1, J1, r1, q1⟩ => args_nil ?_) na) na rfl
  obtain ⟨l, ns, rfl, hq, hl, q1⟩ := q1
  obtain rfl : v = Value.ref l := r1
  obtain ⟨its, r, pl, hz⟩ := J1.list hq
  have hlen : its.toArray.size = ns.length := by rw [List.size_toArray, ← r.length, List.length_map]
  refine call_set_list (J1.ok.hd hc) pl.isList (by simpa using intsAre_of r) (by rw [hlen]; unfold scanBound; omega) fun h' tk hS hk => args_nil ?_
  rw [hlen] at hS
  obtain ⟨o, es, ep, t, ho, hex, hd, _, _, _, hf, hn⟩ := hS
  have J2 : Inv X pins σ H1 { s1 with heap := h', toks := tk } := J1.kept fun b o e => hk b o (Heap.lt_size e) e
  have hle : es.size ≤ 1000 := by
    have := firstMet_length_le (fun i => ns.getD i 0) ns.length
    omega
  exact call_len_set ho hex hd hf (by omega) ⟨.int (metI ns).length, H1, J2.tok _, ⟨_, by rw [hn]; rfl⟩, q1⟩
def eLenSet (f : En → Option PyData) : En → Option PyData := fun env => (((f env).bind lst?).bind intsD).bind fun ns => if ns.length ≤ 1000 then some (.int (metI ns).length) else none
theorem pd_lenSet (ha : PE X a (tD fa)) (hm : X.mg "len" = none) (hm2 : X.mg "set" = none) (hg : Gl X "len" := by rfl) (hg2 : Gl X "set" := by rfl) (hc : X.calm = true := by rfl)
    (na : starEach [a] X.env = (false, eval a X.env) :: starEach [] X.env := by rfl) : PE X (.Call (.Name "len" p) [.Call (.Name "set" p2) [a] [] q] [] pos) (tD (eLenSet fa)) :=
  pd_of (pe_lenSetA hg hm hg2 hm2 ha hc na) fun G σ env d ok h H s Q qq => by
    obtain ⟨ns, h1, h2⟩ := Option.bind_eq_some_iff.mp h
    obtain ⟨ds, h3, h4⟩ := Option.bind_eq_some_iff.mp h1
    obtain ⟨x, h5, h6⟩ := Option.bind_eq_some_iff.mp h3
    split at h2
    · rename_i hl
      cases h2
      rw [lst?_some h6, intsD_some h4] at h5
      refine ⟨G, env, _, s, ok, h5, fun v G1 H1 m1 d1 => ?_⟩
      cases d1 with
      | lst ha ra =>
        have ha := m1.s _ _ ha
        rw [ra.ints] at ha
        exact ⟨_, ns, rfl, SqL.of ha, hl, qq _ G1 H1 m1 (.int _)⟩
    · cases h2
def tSortSet (K : PySem.W.Frag) (ta : TE) : TE := fun σ H Q => ta σ H fun x H1 => ∃ (l : Addr) (ns : List Int), x = V.ref l ∧ SqT K H1 l (ns.map V.int) ∧ ns.length < 64 ∧
  ∀ (ms : List Int) (p : Addr), ms.Pairwise (· < ·) → (∀ k, k ∈ ms ↔ k ∈ ns) → H1 p = none → Q (.ref p) (upd H1 p (.lst (ms.map V.int)))
theorem pe_sortSet {ta : TE} (hg : Gl X "sorted") (hm : X.mg "sorted" = none) (hg2 : Gl X "set") (hm2 : X.mg "set" = none) (ha : PE X a ta) (hc : X.calm = true := by rfl)
    (na : starEach [a] X.env = (false, eval a X.env) :: starEach [] X.env := by rfl) : PE X (.Call (.Name "sorted" p) [.Call (.Name "set" p2) [a] [] q] [] pos) (tSortSet X.K ta) := by
  refine ⟨fun pins s σ H Q J h => Call_ (ld_blt J hg hm boot_sorted
    (callWith_builtin1 (args_cons (Call_ (ld_blt J hg2 hm2 boot_set ?_)) rfl) rfl rfl))⟩
  refine callWith_type1 (args_cons (thn (ha.run pins s σ H _ J h) fun v s1 ⟨x, H1, J1, r1, q1⟩ => args_nil ?_) na) na rfl
  obtain ⟨l, ns, rfl, hq, hl, q1⟩ := q1
  obtain rfl : v = Value.ref l := r1
  obtain ⟨its, r, pl, hz⟩ := J1.tuple hq
  have hd := J1.ok.hd hc
  refine call_set_tupI ns hd (show s1.heap.IsTuple l its.toArray from pl) (by simpa using intsAre_of r) (by unfold scanBound; omega) fun h' tk c R1 hcn k => args_nil ?_
  have J2 : Inv X pins σ H1 { s1 with heap := h', toks := tk } := J1.kept fun b o e => k b o e
  refine sorted_set (s := { s1 with heap := h', toks := tk }) R1 hd (by omega) fun s2 p out c2 ms k2 g2 o2 hp hgp hi hs hmem hlen => ?_
  have hn : H1 p = none := J2.hok.fresh hp
  have hsz : (ms.map V.int).length ≤ sizeLine := by rw [List.length_map, hlen, sizeLine_eq]; omega
  have J3 : Inv X pins σ (upd H1 p (.lst (ms.map V.int))) s2 :=
    J2.call' (ch := []) o2 (Un.laid k2 hp hn) (J2.hok.laid k2 hp ⟨hsz, out.toList, c2, vals_of_ints hi, hgp⟩) (by rw [g2]; exact J2.bare) (fun _ z => nomatch z)
  exact ⟨.ref p, _, J3, rfl, q1 ms p hs (fun j => by rw [hmem j, decide_eq_true_eq]) hn⟩
/-- the ascending members -/
def ascI (ns : List Int) : List Int := sortI (metI ns)
theorem firstMet_nd (f : Nat → Int) : ∀ n, (firstMet f n).Nodup
  | 0 => by rw [firstMet_zero]; exact List.nodup_nil
  | n + 1 => by
    rw [firstMet_succ]
    unfold step_dedup
    split
    · exact firstMet_nd f n
    · rename_i h
      refine List.nodup_append.mpr ⟨firstMet_nd f n, by simp, fun x hx y hy e => ?_⟩
      rw [List.mem_singleton] at hy
      rw [hy] at e
      exact h (List.any_eq_true.mpr ⟨x, hx, by simp [e]⟩)
theorem metI_nd (ns : List Int) : (metI ns).Nodup := firstMet_nd _ _
theorem metI_mem (ns : List Int) (k : Int) : k ∈ metI ns ↔ k ∈ ns := by
  have h := firstMet_any (fun i => ns.getD i 0) ns.length k
  have e : (List.range ns.length).map (fun i => ns.getD i 0) = ns := by
    refine List.ext_getElem? fun i => ?_
    rw [List.getElem?_map]
    by_cases hi : i < ns.length
    · rw [List.getElem?_range hi, Option.map_some, List.getD_eq_getElem?_getD, List.getElem?_eq_getElem hi]
      rfl
    · rw [List.getElem?_eq_none (by simp; omega), List.getElem?_eq_none (by omega)]
      rfl
  rw [e] at h
  have f : ∀ l : List Int, (l.any (· == k)) = true ↔ k ∈ l := fun l => by simp
  unfold metI
  rw [← f, ← f, h]
theorem nd_lt {l : List Int} (h : l.Pairwise (· ≤ ·)) (n : l.Nodup) : l.Pairwise (· < ·) := by
  have := List.Pairwise.and h n
  exact this.imp fun ⟨a, b⟩ => by omega
theorem lt_le {l : List Int} (h : l.Pairwise (· < ·)) : l.Pairwise (· ≤ ·) := h.imp fun q => Int.le_of_lt q
theorem lt_nd {l : List Int} (h : l.Pairwise (· < ·)) : l.Nodup := h.imp fun q => Int.ne_of_lt q
theorem ascI_is {ns ms : List Int} (h : ms.Pairwise (· < ·)) (hm : ∀ k, k ∈ ms ↔ k ∈ ns) : ms = ascI ns := by
  refine sortI_is ?_ (lt_le h)
  exact (List.perm_ext_iff_of_nodup (lt_nd h) (metI_nd ns)).mpr fun k => by rw [hm k, metI_mem]
def tup? : PyData → Option (List PyData)
  | .tuple ds => some ds
  | _ => none
theorem tup?_some {d : PyData} {ds : List PyData} (h : tup? d = some ds) : d = .tuple ds := by
  cases d <;> first | (cases h; rfl) | cases h
def eSortSet (f : En → Option PyData) : En → Option PyData := fun env => (((f env).bind tup?).bind intsD).bind fun ns => if ns.length < 64 then some (.list ((ascI ns).map .int)) else none
theorem pd_sortSet (ha : PE X a (tD fa)) (hm : X.mg "sorted" = none) (hm2 : X.mg "set" = none) (hg : Gl X "sorted" := by rfl) (hg2 : Gl X "set" := by rfl) (hc : X.calm = true := by rfl)
    (na : starEach [a] X.env = (false, eval a X.env) :: starEach [] X.env := by rfl) : PE X (.Call (.Name "sorted" p) [.Call (.Name "set" p2) [a] [] q] [] pos) (tD (eSortSet fa)) :=
  pd_of (pe_sortSet hg hm hg2 hm2 ha hc na) fun G σ env d ok h H s Q qq => by
    obtain ⟨ns, h1, h2⟩ := Option.bind_eq_some_iff.mp h
    obtain ⟨ds, h3, h4⟩ := Option.bind_eq_some_iff.mp h1
    obtain ⟨x, h5, h6⟩ := Option.bind_eq_some_iff.mp h3
    split at h2
    · rename_i hl
      cases h2
      rw [tup?_some h6, intsD_some h4] at h5
      refine ⟨G, env, _, s, ok, h5, fun v G1 H1 m1 d1 => ?_⟩
      cases d1 with
      | tup ha ra =>
        have ha := m1.s _ _ ha
        rw [ra.ints] at ha
        refine ⟨_, ns, rfl, SqT.of ha, hl, fun ms p hs hmem hp => ?_⟩
        rw [ascI_is hs hmem]
        exact qq _ _ _ (m1.trans (.new m1.s hp)) (Mv.lst m1.s hp (DaAll.of_ints _))
    · cases h2

/-! ### dicts with int keys, by data -/
def isK (k : Int) : PyData → Bool
  | .int j => decide (j = k)
  | _ => false
def valI (ds : List (PyData × PyData)) (k : Int) : Option PyData := (ds.find? fun p => isK k p.1).map (·.2)
def putI (ds : List (PyData × PyData)) (k : Int) (v : PyData) : List (PyData × PyData) :=
  if (ds.any fun p => isK k p.1) = true then ds.map (fun p => if isK k p.1 = true then (p.1, v) else p) else ds ++ [(.int k, v)]
theorem isK_kD (k : Int) (j : Key) : isK k (kD j) = decide (j = Sum.inl k) := by
  cases j with
  | inl i =>
    show decide (i = k) = decide (Sum.inl i = Sum.inl k)
    by_cases h : i = k
    · subst h
      simp
    · rw [decide_eq_false h, decide_eq_false (fun e => h (Sum.inl.inj e))]
  | inr s => exact (decide_eq_false (fun e => nomatch e)).symm
theorem DaKv.val {G : Hp} (k : Int) : ∀ {kvs : List (Key × V)} {ds : List (PyData × PyData)}, DaKv G kvs ds → (valV kvs (.inl k) = none ∧ valI ds k = none) ∨ ∃ v d, valV kvs (.inl k) = some v ∧ valI ds k = some d ∧ Da G v d
  | _, _, .nil => .inl ⟨rfl, rfl⟩
  | _, _, .cons (k := j) (v := v) (vs := vs) (d := d) (ds := ds) h r => by
    unfold valV valI
    rw [List.find?_cons, List.find?_cons]
    have e := isK_kD k j
    by_cases hj : j = Sum.inl k
    · rw [decide_eq_true hj] at e
      simp only [e, decide_eq_true hj]
      exact .inr ⟨v, d, rfl, rfl, h⟩
    · rw [decide_eq_false hj] at e
      simp only [e, decide_eq_false hj]
      exact DaKv.val k r
theorem DaKv.any {G : Hp} (k : Int) : ∀ {kvs : List (Key × V)} {ds : List (PyData × PyData)}, DaKv G kvs ds → (kvs.any fun kv => decide (kv.1 = Sum.inl k)) = (ds.any fun p => isK k p.1)
  | _, _, .nil => rfl
  | _, _, .cons (k := j) h r => by
    rw [List.any_cons, List.any_cons, DaKv.any k r, isK_kD]
theorem DaKv.putMap {G : Hp} (k : Int) {v : V} {d : PyData} (hv : Da G v d) : ∀ {kvs : List (Key × V)} {ds : List (PyData × PyData)}, DaKv G kvs ds → DaKv G (kvs.map fun kv => if kv.1 = Sum.inl k then (kv.1, v) else kv) (ds.map fun p => if isK k p.1 = true then (p.1, d) else p)
  | _, _, .nil => .nil
  | _, _, .cons (k := j) h r => by
    rw [List.map_cons, List.map_cons]
    by_cases hj : j = Sum.inl k
    · rw [if_pos hj, if_pos (by rw [isK_kD]; exact decide_eq_true hj)]
      exact .cons hv (DaKv.putMap k hv r)
    · rw [if_neg hj, if_neg (by rw [isK_kD, decide_eq_false hj]; exact Bool.false_ne_true)]
      exact .cons h (DaKv.putMap k hv r)
theorem DaKv.snoc {G : Hp} (k : Int) {v : V} {d : PyData} (hv : Da G v d) : ∀ {kvs : List (Key × V)} {ds : List (PyData × PyData)}, DaKv G kvs ds → DaKv G (kvs ++ [(Sum.inl k, v)]) (ds ++ [(.int k, d)])
  | _, _, .nil => .cons (k := Sum.inl k) hv .nil
  | _, _, .cons h r => .cons h (DaKv.snoc k hv r)
theorem DaKv.put {G : Hp} (k : Int) {v : V} {d : PyData} (hv : Da G v d) {kvs : List (Key × V)} {ds : List (PyData × PyData)} (r : DaKv G kvs ds) : DaKv G (putK kvs (.inl k) v) (putI ds k d) := by
  unfold putK putI
  rw [r.any k]
  split
  · exact r.putMap k hv
  · exact r.snoc k hv
theorem DaKv.length {G : Hp} : ∀ {kvs : List (Key × V)} {ds : List (PyData × PyData)}, DaKv G kvs ds → kvs.length = ds.length
  | _, _, .nil => rfl
  | _, _, .cons _ r => by rw [List.length_cons, List.length_cons, DaKv.length r]
theorem DaKv.vals {G : Hp} : ∀ {kvs : List (Key × V)} {ds : List (PyData × PyData)}, DaKv G kvs ds → DaAll G (kvs.map (·.2)) (ds.map (·.2))
  | _, _, .nil => .nil
  | _, _, .cons h r => .cons h (DaKv.vals r)
def dic? : PyData → Option (List (PyData × PyData))
  | .dict ds => some ds
  | _ => none
theorem dic?_some {d : PyData} {ds : List (PyData × PyData)} (h : dic? d = some ds) : d = .dict ds := by
  cases d <;> first | (cases h; rfl) | cases h
theorem Da.dic' {G : Hp} {v : V} {ds : List (PyData × PyData)} (h : Da G v (.dict ds)) : ∃ a kvs, v = .ref a ∧ G a = some (.dK kvs) ∧ DaKv G kvs ds := by
  cases h with
  | dic h r => exact ⟨_, _, rfl, h, r⟩
/-- d[k] -/
def eDGet (fd fk : En → Option PyData) : En → Option PyData := fun env => ((fd env).bind dic?).bind fun ds => ((fk env).bind asI).bind fun k => valI ds k
theorem pd_dget {o i : Expr} {fd fk : En → Option PyData} (ho : PE X o (tD fd)) (hi : PE X i (tD fk)) (hu : X.A.units + 1 < cLine) (hs : NoSl i := by exact fun _ _ => rfl) : PE X (.Subscript o i pos) (tD (eDGet fd fk)) :=
  pd_of (pe_dget hu ho hi hs) fun G σ env d ok h H s Q qq => by
    obtain ⟨ds, h1, h⟩ := Option.bind_eq_some_iff.mp h
    obtain ⟨x, h2, h3⟩ := Option.bind_eq_some_iff.mp h1
    obtain ⟨k, h4, h⟩ := Option.bind_eq_some_iff.mp h
    obtain ⟨y, h5, h6⟩ := Option.bind_eq_some_iff.mp h4
    rw [dic?_some h3] at h2
    rw [asI_some h6] at h5
    refine ⟨G, env, _, s, ok, h2, fun v1 G1 H1 m1 d1 => ⟨G1, env, _, m1.s, ok.mono m1.g, h5, fun v2 G2 H2 m2 d2 => ?_⟩⟩
    obtain ⟨a, kvs, rfl, ha, r⟩ := (d1.mono m2.g).dic'
    rcases r.val k with ⟨_, e⟩ | ⟨v, e, q1, q2, q3⟩
    · rw [e] at h
      cases h
    · rw [q2] at h
      cases h
      refine ⟨a, v, rfl, ?_, qq v G2 H2 (m1.trans m2) q3⟩
      rw [d2.int', ← q1]
      exact DGet.k (k := Sum.inl k) (m2.s _ _ ha)
/-- k not in d -/
def eDNi (fk fd : En → Option PyData) : En → Option PyData := fun env => ((fd env).bind dic?).bind fun ds => ((fk env).bind asI).map fun k => .bool (!(valI ds k).isSome)
theorem td_dni {o i : Expr} {fd fk : En → Option PyData} (hi : PE X i (tD fk)) (ho : PE X o (tD fd)) (hu : X.A.units + 1 < cLine) (hm : behindInMarks .NotIn o = false := by rfl) : PT X (.Compare i [.NotIn] [o] pos) (tT (fT (eDNi fk fd))) :=
  pt_of (pt_cmp (pc_dnotin hu hi ho) hm) fun G σ env b ok h H s Q qq => by
    have h := fT_some h
    obtain ⟨ds, h1, h⟩ := Option.bind_eq_some_iff.mp h
    obtain ⟨x, h2, h3⟩ := Option.bind_eq_some_iff.mp h1
    obtain ⟨k, h4, h⟩ := Option.map_eq_some_iff.mp h
    obtain ⟨y, h5, h6⟩ := Option.bind_eq_some_iff.mp h4
    rw [dic?_some h3] at h2
    rw [asI_some h6] at h5
    refine ⟨G, env, _, s, ok, h5, fun v1 G1 H1 m1 d1 => ⟨G1, env, _, m1.s, ok.mono m1.g, h2, fun v2 G2 H2 m2 d2 => ?_⟩⟩
    obtain ⟨a, kvs, rfl, ha, r⟩ := d2.dic'
    have hb : b = !(valI ds k).isSome := by
      cases h
      rfl
    refine ⟨a, valV kvs (.inl k), rfl, by rw [d1.int']; exact DGet.k (k := Sum.inl k) (m2.s _ _ ha), b, ?_, qq G2 H2 (m1.trans m2)⟩
    rw [hb]
    rcases r.val k with ⟨e1, e2⟩ | ⟨v, e, q1, q2, q3⟩
    · rw [e1, e2] <;> rfl
    · rw [q1, q2] <;> rfl
/-- d[k] = e, d an own dict -/
def dicS : Sl → Option (List (PyData × PyData))
  | .own (.dict ds) => some ds
  | _ => none
theorem dicS_some {s : Sl} {ds : List (PyData × PyData)} (h : dicS s = some ds) : s = .own (.dict ds) := by
  match s, h with
  | .own (.dict _), h => cases h; rfl
def dpuS (i : Nat) (fk f : En → Option PyData) : Sm := fun env => (env[i]?.bind dicS).bind fun ds => if ds.length < 100000 then (f (dats env)).bind fun d => ((fk (dats env)).bind asI).map fun k => .nx (env.set i (.own (.dict (putI ds k d)))) else none
theorem s_dput {i : Nat} {o k value : Expr} {kpos : Pos} {f fk : En → Option PyData} (ho : PE X o (tVar i)) (hk : PE X k (tD fk)) (hv : PE X value (tD f)) (hu : X.A.units + 1 < cLine) (hs : swapsWith value (some (.Subscript o k kpos)) pos.line X.env = pure false := by rfl) :
    PS X (.Assign [.Subscript o k kpos] value pos) (tS (dpuS i fk f)) := PS.weak (ps_dput hu ho hk hv hs) fun D σ H ⟨G0, H0, env, oo, ⟨G, r⟩, h, q⟩ => by
  obtain ⟨ds, h1, h⟩ := Option.bind_eq_some_iff.mp h
  split at h
  · rename_i hl
    obtain ⟨d, h2, h⟩ := Option.bind_eq_some_iff.mp h
    obtain ⟨kk, h3, rfl⟩ := Option.map_eq_some_iff.mp h
    obtain ⟨dk, h4, h5⟩ := Option.bind_eq_some_iff.mp h3
    rw [asI_some h5] at h4
    obtain ⟨sl, h6, h7⟩ := Option.bind_eq_some_iff.mp h1
    rw [dicS_some h7] at h6
    obtain ⟨p, hσ, hG, _, ow⟩ := r.own i _ h6
    cases ow with
    | dic hH ra =>
      refine ⟨G, dats env, d, r.mv.s, r.ok, h2, fun v G1 H1 m1 rv => ⟨.ref p, hσ, G1, dats env, _, m1.s, r.ok.mono m1.g, h4, fun w G2 H2 m2 rw' => ?_⟩⟩
      refine ⟨p, _, rfl, .inl ⟨_, Sum.inl kk, m2.h p _ (m1.h p _ hH), rw'.int', size_lt (by rw [ra.length]; exact hl), rfl⟩, q _ _ ⟨G2, ((r.move m1).move m2).change h6 hσ (.dic upd_same ?_)⟩⟩
      exact ((ra.mono m1.g).mono m2.g).put kk (rv.mono m2.g)
  · cases h
/-- list(d.values()) -/
def tListVals (te : TE) : TE := fun σ H Q => te σ H fun x H1 => ∃ (d : Addr) (kvs : List (Key × V)), x = .ref d ∧ H1 d = some (.dK kvs) ∧ ∀ l, H1 l = none → Q (.ref l) (upd H1 l (.lst (kvs.map (·.2))))
theorem kv_vals : ∀ {kvs : List (Key × V)} {vs : List (Key × Value)}, KV kvs vs → Vals (kvs.map (·.2)) (vs.map (·.2))
  | _, _, .nil => .nil
  | _, _, .cons h r => .cons h.2 (kv_vals r)
theorem pe_listVals {te : TE} {apos cpos : Pos} (he : PE X e te) (hg : Gl X "list") (hm : X.mg "list" = none) (hc : X.calm = true := by rfl) (hbase : attributeBase e "values" X.env (eval e X.env) = eval e X.env := by rfl) (hline : (apos.endLine == cpos.line) = true := by rfl)
    (hs : starEach [.Call (.Attribute e "values" apos) [] [] cpos] X.env = (false, eval (.Call (.Attribute e "values" apos) [] [] cpos) X.env) :: starEach [] X.env := by rfl) :
    PE X (.Call (.Name "list" p) [.Call (.Attribute e "values" apos) [] [] cpos] [] pos) (tListVals te) := by
  refine ⟨fun pins s σ H Q J hq => wpAny_Call_Name_kw (ld_blt J hg hm boot_list (callWith_type1 ?_ hs rfl))⟩
  rw [hs]
  show wpAny _ _ (spliced ((false, eval (.Call (.Attribute e "values" apos) [] [] cpos) X.env)
    :: backTo pos (starEach [] X.env))) _ _ s
  refine Calls.spliced_cons (wpAny_Call_method (T := "dict") (id := "dict.values") hbase rfl hline F.plainAttrs_dict F.slot_dict_values F.type_dict_values
    (thn (he.run pins s σ H _ J hq) fun u s1 ⟨x, H1, J1, rx, d, kvs, ex, hd, q⟩ => ?_))
  subst ex
  obtain rfl : u = Value.ref d := rx
  obtain ⟨hz, hs0, vs, kv, hdo⟩ := J1.hok d _ hd
  obtain ⟨ep, hat⟩ := hdo.dictAt
  have lk : kvs.length = vs.length := Paired.length kv
  have J2 : Inv X pins σ H1 { s1 with heap := s1.heap.push { cls := .type "dict_values", data := .fields #[.ref d] } } := J1.kept (t' := s1.toks) fun b ob y => Heap.get?_push_of_some _ y
  refine ⟨hdo.typeIs, hdo.mapOf.noDict, ?_⟩
  show wpAny _ _ (callWith cpos (.builtin "dict.values") [.ref d] [] []) _ X.xe s1
  refine method_meetsIn F.slot_dict_values F.entry_dict_values rfl
    (PySem.evalArgs_none ⟨rfl, hdo.typeIs, F.args_dict_values_1 _, _, meets_dict_values (mixKind X.prog X.w) d hs0, ⟨vs, hdo⟩, Calls.spliced_nil ?_⟩)
  refine PySem.W.kdl_call (PySem.W.kdl_values (knd := mixKind X.prog X.w) (kvs := vs) (ep := ep)) (J1.ok.hd hc)
    ⟨⟨_, Heap.get?_push_size _ rfl, rfl, rfl⟩, hat.push _⟩ (by omega) fun h' tk acc c hk hS hacc => ?_
  have hacc' : acc.toList = vs.map (·.2) := PySem.W.kdl_vals_eq _ (by simpa using hacc.1) fun j v hv => hacc.2 j v (by simpa using hv)
  have J3 := J2.laid (t' := tk) (a := (s1.heap.push { cls := .type "dict_values", data := .fields #[.ref d] }).objs.size) (o := .lst (kvs.map (·.2))) hk (Nat.le_refl _)
    ⟨by rw [List.length_map]; exact hz, vs.map (·.2), c, kv_vals kv, by rw [← hacc', Array.toArray_toList]; exact hS⟩
  exact ⟨.ref _, _, J3, rfl, q _ (J2.hok.fresh (Nat.le_refl _))⟩
def eVals (fd : En → Option PyData) : En → Option PyData := fun env => ((fd env).bind dic?).map fun ds => .list (ds.map (·.2))
theorem pd_listVals {apos cpos : Pos} {fd : En → Option PyData} (he : PE X e (tD fd)) (hm : X.mg "list" = none) (hg : Gl X "list" := by rfl) (hc : X.calm = true := by rfl) (hbase : attributeBase e "values" X.env (eval e X.env) = eval e X.env := by rfl) (hline : (apos.endLine == cpos.line) = true := by rfl)
    (hs : starEach [.Call (.Attribute e "values" apos) [] [] cpos] X.env = (false, eval (.Call (.Attribute e "values" apos) [] [] cpos) X.env) :: starEach [] X.env := by rfl) :
    PE X (.Call (.Name "list" p) [.Call (.Attribute e "values" apos) [] [] cpos] [] pos) (tD (eVals fd)) :=
  pd_of (pe_listVals he hg hm hc hbase hline hs) fun G σ env d ok h H s Q qq => by
    obtain ⟨ds, h1, rfl⟩ := Option.map_eq_some_iff.mp h
    obtain ⟨x, h2, h3⟩ := Option.bind_eq_some_iff.mp h1
    rw [dic?_some h3] at h2
    refine ⟨G, env, _, s, ok, h2, fun v1 G1 H1 m1 d1 => ?_⟩
    obtain ⟨a, kvs, rfl, ha, r⟩ := d1.dic'
    exact ⟨a, kvs, rfl, m1.s _ _ ha, fun l hl => qq _ _ _ (m1.trans (.new m1.s hl)) (Mv.lst m1.s hl r.vals)⟩
/-- a chain of two comparisons as a test -/
theorem td_chain {op op' : CmpOp} {r r' : R2} {g g' : PyData → PyData → Option PyData} {b c : Expr} {fb fc : En → Option PyData} (ho : OpR X (compareOp op) r) (hr : RD r g) (ho' : OpR X (compareOp op') r') (hr' : RD r' g') (ha : PE X a (tD fa)) (hb : PE X b (tD fb)) (hc : PE X c (tD fc))
    (hm : lastMarks [op, op'] [b, c] = false := by with_unfolding_all rfl) : PT X (.Compare a [op, op'] [b, c] pos) (tT (fT (eChain g g' fa fb fc))) :=
  pt_of (pt_chain ho ho' ha hb hc hm) fun G σ env bb ok h H s Q qq => by
    have h := fT_some h
    obtain ⟨x, h1, h⟩ := Option.bind_eq_some_iff.mp h
    obtain ⟨y, h2, h⟩ := Option.bind_eq_some_iff.mp h
    obtain ⟨k, h3, h⟩ := Option.bind_eq_some_iff.mp h
    obtain ⟨z, h4, h5⟩ := Option.bind_eq_some_iff.mp h3
    rw [asB_some h5] at h4
    refine ⟨G, env, x, s, ok, h1, fun v1 G1 H1 m1 d1 => ⟨G1, env, y, m1.s, ok.mono m1.g, h2, fun v2 G2 H2 m2 d2 => ?_⟩⟩
    refine hr G2 H2 v1 v2 x y _ m2.s (d1.mono m2.g) d2 h4 _ fun v3 G3 H3 m3 d3 => ⟨k, d3.bl', ?_⟩
    cases k with
    | true =>
      obtain ⟨w, h6, h7⟩ := Option.bind_eq_some_iff.mp h
      refine iteT ⟨G3, env, w, m3.s, ((ok.mono m1.g).mono m2.g).mono m3.g, h6, fun v4 G4 H4 m4 d4 => ?_⟩
      exact hr' G4 H4 v2 v4 y w _ m4.s ((d2.mono m3.g).mono m4.g) d4 h7 _ fun v G5 H5 m5 d5 => ⟨bb, d5.bl', qq G5 H5 ((((m1.trans m2).trans m3).trans m4).trans m5)⟩
    | false =>
      cases h
      exact iteF ⟨false, rfl, qq G3 H3 ((m1.trans m2).trans m3)⟩
end
end Sb
end
section
set_option Elab.async false
set_option linter.all false
set_option maxRecDepth 100000
set_option maxHeartbeats 4000000
/-! What each def means on data (printed by gen.py). -/
namespace Sb
open PySem PySem.Spec L2
open PyProof.Rows hiding St
def pyNeg : PyData → Option PyData
  | .int i => some (.int (-i))
  | _ => none
def dropS (f : En → Option PyData) : Sm := fun env => (evS f env).map fun p => .nx p.2
def eIsi (T : String) (f : En → Option PyData) : En → Option PyData := fun env => ((f env).bind (isT T)).map .bool
/-- is_integer: slots 0 value, 1 least, 2 most -/
def g_is_integer : Sm :=
  (seqS (retS (eAnd (eIsi "int" (eV 0)) (eAnd (eNot (eIsi "bool" (eV 0))) (eChain pyLe pyLe (eV 1) (eV 0) (eV 2)))))
  nextS)
def m_is_integer : List PyData → Option PyData := runG 3 3 g_is_integer
theorem c_is_integer (a0 a1 a2 : PyData) : m_is_integer [a0, a1, a2] = (g_is_integer [.dat a0, .dat a1, .dat a2]).bind rtO := rfl
/-- is_word: slots 0 value, 1 words -/
def g_is_word : Sm :=
  (seqS (retS (eAnd (eIsi "str" (eV 0)) (e2 (pyIn false) (eV 0) (eV 1))))
  nextS)
def m_is_word : List PyData → Option PyData := runG 2 2 g_is_word
theorem c_is_word (a0 a1 : PyData) : m_is_word [a0, a1] = (g_is_word [.dat a0, .dat a1]).bind rtO := rfl
/-- are_kinds: slots 0 value, 1 one, 2 other -/
def g_are_kinds : Sm :=
  (seqS (ifS (fOr (fNot (fT (eIsi "tuple" (eV 0)))) (fOr (fT (e2 pyEq (eV 0) (eTup aN))) (fNot (fT (eF pyAll (aC (eLc (iS (eV 0)) (tg1 1) cYes (eF m_is_integer (aC (eV 1) (aC (eC (.int 0)) (aC (eC (.int 4)) aN)))) [1]) aN))))))
    (seqS (retS (eC (.bool false)))
    nextS)
    nextS)
  (seqS (retS (eF pyAll (aC (eLc (iZ (eV 0) (eSl (eV 0) (oS (eC (.int 1))) oN)) (tgN [1, 2]) cYes (e2 pyLt (eV 1) (eV 2)) [1, 2]) aN)))
  nextS))
def m_are_kinds : List PyData → Option PyData := runG 3 1 g_are_kinds
theorem c_are_kinds (a0 : PyData) : m_are_kinds [a0] = (g_are_kinds [.dat a0, .no, .no]).bind rtO := rfl
/-- are_steps: slots 0 value, 1 one -/
def g_are_steps : Sm :=
  (seqS (ifS (fOr (fNot (fT (eIsi "tuple" (eV 0)))) (fNot (fT (eChain pyLe pyLe (eC (.int 1)) (eF pyLen (aC (eV 0) aN)) (eC (.int 4))))))
    (seqS (retS (eC (.bool false)))
    nextS)
    nextS)
  (seqS (retS (eF pyAll (aC (eLc (iS (eV 0)) (tg1 1) cYes (eF m_are_kinds (aC (eV 1) aN)) [1]) aN)))
  nextS))
def m_are_steps : List PyData → Option PyData := runG 2 1 g_are_steps
theorem c_are_steps (a0 : PyData) : m_are_steps [a0] = (g_are_steps [.dat a0, .no]).bind rtO := rfl
/-- wrong_place: slots 0 thing -/
def g_wrong_place : Sm :=
  (seqS (ifS (fOr (fNot (fT (eIsi "tuple" (eV 0)))) (fT (e2 pyNe (eF pyLen (aC (eV 0) aN)) (eC (.int 5)))))
    (seqS (retS (eTup aN))
    nextS)
    nextS)
  (seqS (ifS (fNot (fT (eF m_are_steps (aC (e2 pyIx (eV 0) (eC (.int 0))) aN))))
    (seqS (retS (eTup (aC (eC (.int 0)) aN)))
    nextS)
    nextS)
  (seqS (ifS (fNot (fT (eF m_is_word (aC (e2 pyIx (eV 0) (eC (.int 1))) (aC (eTup (aC (eC (.str "loose")) (aC (eC (.str "among")) (aC (eC (.str "strict")) (aC (eC (.str "any")) aN))))) aN)))))
    (seqS (retS (eTup (aC (eC (.int 1)) aN)))
    nextS)
    nextS)
  (seqS (ifS (fNot (fT (eF m_is_word (aC (e2 pyIx (eV 0) (eC (.int 2))) (aC (eIf (fT (e2 pyEq (e2 pyIx (eV 0) (eC (.int 1))) (eC (.str "any")))) (eTup (aC (eC (.str "whole")) aN)) (eTup (aC (eC (.str "whole")) (aC (eC (.str "each")) aN)))) aN)))))
    (seqS (retS (eTup (aC (eC (.int 2)) aN)))
    nextS)
    nextS)
  (seqS (ifS (fNot (fT (eF m_is_integer (aC (e2 pyIx (eV 0) (eC (.int 3))) (aC (eC (.int 0)) (aC (eC (.int 8)) aN))))))
    (seqS (retS (eTup (aC (eC (.int 3)) aN)))
    nextS)
    nextS)
  (seqS (retS (eIf (fT (eF m_is_word (aC (e2 pyIx (eV 0) (eC (.int 4))) (aC (eIf (fT (e2 pyEq (e2 pyIx (eV 0) (eC (.int 1))) (eC (.str "any")))) (eTup (aC (eC (.str "all")) aN)) (eTup (aC (eC (.str "all")) (aC (eC (.str "first")) aN)))) aN)))) (eC .none) (eTup (aC (eC (.int 4)) aN))))
  nextS))))))
def m_wrong_place : List PyData → Option PyData := runG 1 1 g_wrong_place
theorem c_wrong_place (a0 : PyData) : m_wrong_place [a0] = (g_wrong_place [.dat a0]).bind rtO := rfl
/-- need_way: slots 0 thing, 1 place -/
def g_need_way : Sm :=
  (seqS (asgS 1 (eF m_wrong_place (aC (eV 0) aN)))
  (seqS (ifS (fT (e2 pyNotN (eV 1) (eC .none)))
    (seqS (fun _ => none)
    nextS)
    nextS)
  (seqS (retS (eV 0))
  nextS)))
def m_need_way : List PyData → Option PyData := runG 2 1 g_need_way
theorem c_need_way (a0 : PyData) : m_need_way [a0] = (g_need_way [.dat a0, .no]).bind rtO := rfl
/-- steps_in: slots 0 way, 1 kind, 2 number, 3 kinds -/
def g_steps_in : Sm :=
  (seqS (retS (eLc (iE (e2 pyIx (eV 0) (eC (.int 0)))) (tgN [2, 3]) (fT (e2 (pyIn false) (eV 1) (eV 3))) (e2 pyAdd (eV 2) (eC (.int 1))) [2, 3]))
  nextS)
def m_steps_in : List PyData → Option PyData := runG 4 2 g_steps_in
theorem c_steps_in (a0 a1 : PyData) : m_steps_in [a0, a1] = (g_steps_in [.dat a0, .dat a1, .no, .no]).bind rtO := rfl
/-- is_event: slots 0 value -/
def g_is_event : Sm :=
  (seqS (ifS (fOr (fNot (fT (eIsi "tuple" (eV 0)))) (fT (e2 pyNe (eF pyLen (aC (eV 0) aN)) (eC (.int 2)))))
    (seqS (retS (eC (.bool false)))
    nextS)
    nextS)
  (seqS (retS (eAnd (eF m_is_integer (aC (e2 pyIx (eV 0) (eC (.int 0))) (aC (eC (.int 0)) (aC (eC (.int 1000000000000000000000000000000)) aN)))) (eF m_is_integer (aC (e2 pyIx (eV 0) (eC (.int 1))) (aC (eC (.int 0)) (aC (eC (.int 4)) aN))))))
  nextS))
def m_is_event : List PyData → Option PyData := runG 1 1 g_is_event
theorem c_is_event (a0 : PyData) : m_is_event [a0] = (g_is_event [.dat a0]).bind rtO := rfl
/-- need_log: slots 0 thing, 1 one -/
def g_need_log : Sm :=
  (seqS (ifS (fOr (fNot (fT (eIsi "tuple" (eV 0)))) (fNot (fT (eF pyAll (aC (eLc (iS (eV 0)) (tg1 1) cYes (eF m_is_event (aC (eV 1) aN)) [1]) aN)))))
    (seqS (fun _ => none)
    nextS)
    nextS)
  (seqS (retS (eV 0))
  nextS))
def m_need_log : List PyData → Option PyData := runG 2 1 g_need_log
theorem c_need_log (a0 : PyData) : m_need_log [a0] = (g_need_log [.dat a0, .no]).bind rtO := rfl
/-- times_in: slots 0 log, 1 found, 2 total, 3 gap, 4 kind -/
def g_times_in : Sm :=
  (seqS (parN 1 2 (eLst aN) (eC (.int 0)))
  (seqS (forS (iS (eV 0)) (sgN [3, 4])
    (seqS (augS 2 (eV 3))
    (seqS (appS 1 (eV 2))
    nextS)))
  (seqS (retS (eV 1))
  nextS)))
def m_times_in : List PyData → Option PyData := runG 5 1 g_times_in
theorem c_times_in (a0 : PyData) : m_times_in [a0] = (g_times_in [.dat a0, .no, .no, .no, .no]).bind rtO := rfl
/-- first_in: slots 0 way -/
def g_first_in : Sm :=
  (seqS (retS (eTup (aC (eC (.int 0)) (aC (eC (.bool false)) (aC (e2 pyRepT (eTup (aC (eC .none) aN)) (eF pyLen (aC (e2 pyIx (eV 0) (eC (.int 0))) aN))) aN)))))
  nextS)
def m_first_in : List PyData → Option PyData := runG 1 1 g_first_in
theorem c_first_in (a0 : PyData) : m_first_in [a0] = (g_first_in [.dat a0]).bind rtO := rfl
/-- grown: slots 0 ages, 1 gap, 2 window, 3 age -/
def g_grown : Sm :=
  (seqS (retS (eF pyTuple (aC (eLc (iS (eV 0)) (tg1 3) cYes (eIf (fOr (fT (e2 pyIsN (eV 3) (eC .none))) (fT (e2 pyGt (e2 pyAdd (eV 3) (eV 1)) (eV 2)))) (eC .none) (e2 pyAdd (eV 3) (eV 1))) [3]) aN)))
  nextS)
def m_grown : List PyData → Option PyData := runG 4 3 g_grown
theorem c_grown (a0 a1 a2 : PyData) : m_grown [a0, a1, a2] = (g_grown [.dat a0, .dat a1, .dat a2, .no]).bind rtO := rfl
/-- came: slots 0 way, 1 begun, 2 ages, 3 kind, 4 found, 5 steps, 6 step -/
def g_came : Sm :=
  (seqS (parN 4 5 (e2 pyRep (eLst (aC (eC .none) aN)) (eF pyLen (aC (e2 pyIx (eV 0) (eC (.int 0))) aN))) (eF m_steps_in (aC (eV 0) (aC (eV 3) aN))))
  (seqS (forS (iS (eV 5)) (sg1 6)
    (seqS (ifS (fT (e2 pyEq (eV 6) (eC (.int 1))))
      (seqS (stoS 4 (eC (.int 0)) (eIf (fAnd (fT (e2 pyEq (e2 pyIx (eV 0) (eC (.int 4))) (eC (.str "first")))) (fT (eV 1))) (eC .none) (eC (.int 0))))
      nextS)
      (seqS (ifS (fT (e2 pyNotN (e2 pyIx (eV 2) (e2 pySub (eV 6) (eC (.int 2)))) (eC .none)))
        (seqS (stoS 4 (e2 pySub (eV 6) (eC (.int 1))) (eIf (fT (e2 pyEq (e2 pyIx (eV 0) (eC (.int 2))) (eC (.str "whole")))) (e2 pyIx (eV 2) (e2 pySub (eV 6) (eC (.int 2)))) (eC (.int 0))))
        nextS)
        nextS)
      nextS))
    nextS))
  (seqS (retS (eV 4))
  nextS)))
def m_came : List PyData → Option PyData := runG 7 4 g_came
theorem c_came (a0 a1 a2 a3 : PyData) : m_came [a0, a1, a2, a3] = (g_came [.dat a0, .dat a1, .dat a2, .dat a3, .no, .no, .no]).bind rtO := rfl
/-- lesser: slots 0 one, 1 other -/
def g_lesser : Sm :=
  (seqS (ifS (fOr (fT (e2 pyIsN (eV 0) (eC .none))) (fT (e2 pyIsN (eV 1) (eC .none))))
    (seqS (retS (eIf (fT (e2 pyIsN (eV 0) (eC .none))) (eV 1) (eV 0)))
    nextS)
    nextS)
  (seqS (retS (eF pyMin2 (aC (eV 0) (aC (eV 1) aN))))
  nextS))
def m_lesser : List PyData → Option PyData := runG 2 2 g_lesser
theorem c_lesser (a0 a1 : PyData) : m_lesser [a0, a1] = (g_lesser [.dat a0, .dat a1]).bind rtO := rfl
/-- behind_in: slots 0 way, 1 standing, 2 event, 3 best, 4 begun, 5 ages, 6 gap, 7 kind, 8 steps, 9 fresh, 10 number, 11 age, 12 other -/
def g_behind_in : Sm :=
  (seqS (unpS (sgN [3, 4, 5]) (eV 1))
  (seqS (unpS (sgN [6, 7]) (eV 2))
  (seqS (unpS (sgN [5, 8]) (eTup (aC (eF m_grown (aC (eV 5) (aC (eV 6) (aC (e2 pyIx (eV 0) (eC (.int 3))) aN)))) (aC (eF m_steps_in (aC (eV 0) (aC (eV 7) aN))) aN))))
  (seqS (ifS (fT (e2 pyEq (e2 pyIx (eV 0) (eC (.int 1))) (eC (.str "any"))))
    (seqS (asgS 5 (eF pyTuple (aC (eLc (iE (eV 5)) (tgN [10, 11]) cYes (eIf (fT (e2 (pyIn false) (e2 pyAdd (eV 10) (eC (.int 1))) (eV 8))) (eC (.int 0)) (eV 11)) [10, 11]) aN)))
    (seqS (retS (eTup (aC (eF pyMax2 (aC (eV 3) (aC (eF pyLen (aC (eLc (iS (eV 5)) (tg1 11) (fT (e2 pyNotN (eV 11) (eC .none))) (eV 11) [11]) aN)) aN))) (aC (eOr (eV 4) (e2 (pyIn false) (eC (.int 1)) (eV 8))) (aC (eV 5) aN)))))
    nextS))
    nextS)
  (seqS (asgS 9 (eF m_came (aC (eV 0) (aC (eV 4) (aC (eV 5) (aC (eV 7) aN))))))
  (seqS (asgS 3 (eF pyMax1 (aC (e2 pyAdd (eLst (aC (eV 3) aN)) (eLc (iE (eV 9)) (tgN [10, 11]) (fT (e2 pyNotN (eV 11) (eC .none))) (e2 pyAdd (eV 10) (eC (.int 1))) [10, 11])) aN)))
  (seqS (ifS (fT (e2 pyEq (e2 pyIx (eV 0) (eC (.int 1))) (eC (.str "loose"))))
    (seqS (asgS 5 (eF pyTuple (aC (eLc (iZ (eV 5) (eV 9)) (tgN [11, 12]) cYes (eF m_lesser (aC (eV 11) (aC (eV 12) aN))) [11, 12]) aN)))
    nextS)
    (seqS (ifS (fOr (fT (e2 pyNe (e2 pyIx (eV 0) (eC (.int 1))) (eC (.str "among")))) (fT (e2 pyNe (eV 8) (eLst aN))))
      (seqS (asgS 5 (eF pyTuple (aC (eV 9) aN)))
      nextS)
      nextS)
    nextS))
  (seqS (retS (eTup (aC (eV 3) (aC (eOr (eV 4) (e2 (pyIn false) (eC (.int 1)) (eV 8))) (aC (eV 5) aN)))))
  nextS))))))))
def m_behind_in : List PyData → Option PyData := runG 13 3 g_behind_in
theorem c_behind_in (a0 a1 a2 : PyData) : m_behind_in [a0, a1, a2] = (g_behind_in [.dat a0, .dat a1, .dat a2, .no, .no, .no, .no, .no, .no, .no, .no, .no, .no]).bind rtO := rfl
/-- behind_all: slots 0 way, 1 log, 2 found, 3 event -/
def g_behind_all : Sm :=
  (seqS (asgS 2 (eF m_first_in (aC (eV 0) aN)))
  (seqS (forS (iS (eV 1)) (sg1 3)
    (seqS (asgS 2 (eF m_behind_in (aC (eV 0) (aC (eV 2) (aC (eV 3) aN)))))
    nextS))
  (seqS (retS (eV 2))
  nextS)))
def m_behind_all : List PyData → Option PyData := runG 4 2 g_behind_all
theorem c_behind_all (a0 a1 : PyData) : m_behind_all [a0, a1] = (g_behind_all [.dat a0, .dat a1, .no, .no]).bind rtO := rfl
/-- standing_of: slots 0 way, 1 log -/
def g_standing_of : Sm :=
  (seqS (dropS (eF m_need_way (aC (eV 0) aN)))
  (seqS (retS (eF m_behind_all (aC (eV 0) (aC (eF m_need_log (aC (eV 1) aN)) aN))))
  nextS))
def m_standing_of : List PyData → Option PyData := runG 2 2 g_standing_of
theorem c_standing_of (a0 a1 : PyData) : m_standing_of [a0, a1] = (g_standing_of [.dat a0, .dat a1]).bind rtO := rfl
/-- level: slots 0 way, 1 log -/
def g_level : Sm :=
  (seqS (dropS (eF m_need_way (aC (eV 0) aN)))
  (seqS (retS (e2 pyIx (eF m_behind_all (aC (eV 0) (aC (eF m_need_log (aC (eV 1) aN)) aN))) (eC (.int 0))))
  nextS))
def m_level : List PyData → Option PyData := runG 2 2 g_level
theorem c_level (a0 a1 : PyData) : m_level [a0, a1] = (g_level [.dat a0, .dat a1]).bind rtO := rfl
/-- is_row: slots 0 log, 1 value, 2 one, 3 other -/
def g_is_row : Sm :=
  (seqS (ifS (fOr (fNot (fT (eIsi "tuple" (eV 1)))) (fOr (fT (e2 pyEq (eV 1) (eTup aN))) (fNot (fT (eF pyAll (aC (eLc (iS (eV 1)) (tg1 2) cYes (eF m_is_integer (aC (eV 2) (aC (eC (.int 0)) (aC (e2 pySub (eF pyLen (aC (eV 0) aN)) (eC (.int 1))) aN)))) [2]) aN))))))
    (seqS (retS (eC (.bool false)))
    nextS)
    nextS)
  (seqS (retS (eF pyAll (aC (eLc (iZ (eV 1) (eSl (eV 1) (oS (eC (.int 1))) oN)) (tgN [2, 3]) cYes (e2 pyLt (eV 2) (eV 3)) [2, 3]) aN)))
  nextS))
def m_is_row : List PyData → Option PyData := runG 4 2 g_is_row
theorem c_is_row (a0 a1 : PyData) : m_is_row [a0, a1] = (g_is_row [.dat a0, .dat a1, .no, .no]).bind rtO := rfl
/-- are_near: slots 0 way, 1 log, 2 row, 3 when, 4 one, 5 other -/
def g_are_near : Sm :=
  (seqS (asgS 3 (eF m_times_in (aC (eV 1) aN)))
  (seqS (ifS (fT (e2 pyEq (e2 pyIx (eV 0) (eC (.int 2))) (eC (.str "each"))))
    (seqS (retS (eF pyAll (aC (eLc (iZ (eV 2) (eSl (eV 2) (oS (eC (.int 1))) oN)) (tgN [4, 5]) cYes (e2 pyLe (e2 pySub (e2 pyIx (eV 3) (eV 5)) (e2 pyIx (eV 3) (eV 4))) (e2 pyIx (eV 0) (eC (.int 3)))) [4, 5]) aN)))
    nextS)
    nextS)
  (seqS (retS (e2 pyLe (e2 pySub (e2 pyIx (eV 3) (e2 pyIx (eV 2) (e1 pyNeg (eC (.int 1))))) (e2 pyIx (eV 3) (e2 pyIx (eV 2) (eC (.int 0))))) (e2 pyIx (eV 0) (eC (.int 3)))))
  nextS)))
def m_are_near : List PyData → Option PyData := runG 6 3 g_are_near
theorem c_are_near (a0 a1 a2 : PyData) : m_are_near [a0, a1, a2] = (g_are_near [.dat a0, .dat a1, .dat a2, .no, .no, .no]).bind rtO := rfl
/-- is_any_chain: slots 0 way, 1 log, 2 value, 3 some, 4 number, 5 one -/
def g_is_any_chain : Sm :=
  (seqS (ifS (fOr (fNot (fT (eIsi "tuple" (eV 2)))) (fT (e2 pyNe (eF pyLen (aC (eV 2) aN)) (eF pyLen (aC (e2 pyIx (eV 0) (eC (.int 0))) aN)))))
    (seqS (retS (eC (.bool false)))
    nextS)
    nextS)
  (seqS (asgS 3 (eLc (iE (eV 2)) (tgN [4, 5]) (fT (e2 pyNotN (eV 5) (eC .none))) (eTup (aC (eV 4) (aC (eV 5) aN))) [4, 5]))
  (seqS (ifS (fOr (fT (e2 pyEq (eV 3) (eLst aN))) (fNot (fT (eF pyAll (aC (eLc (iS (eV 3)) (tgN [4, 5]) cYes (eF m_is_integer (aC (eV 5) (aC (eC (.int 0)) (aC (e2 pySub (eF pyLen (aC (eV 1) aN)) (eC (.int 1))) aN)))) [4, 5]) aN)))))
    (seqS (retS (eC (.bool false)))
    nextS)
    nextS)
  (seqS (ifS (fNot (fT (eF pyAll (aC (eLc (iS (eV 3)) (tgN [4, 5]) cYes (e2 (pyIn false) (e2 pyIx (e2 pyIx (eV 1) (eV 5)) (eC (.int 1))) (e2 pyIx (e2 pyIx (eV 0) (eC (.int 0))) (eV 4))) [4, 5]) aN))))
    (seqS (retS (eC (.bool false)))
    nextS)
    nextS)
  (seqS (retS (eF m_are_near (aC (eV 0) (aC (eV 1) (aC (eF pySorted (aC (eLc (iS (eV 3)) (tgN [4, 5]) cYes (eV 5) [4, 5]) aN)) aN)))))
  nextS)))))
def m_is_any_chain : List PyData → Option PyData := runG 6 3 g_is_any_chain
theorem c_is_any_chain (a0 a1 a2 : PyData) : m_is_any_chain [a0, a1, a2] = (g_is_any_chain [.dat a0, .dat a1, .dat a2, .no, .no, .no]).bind rtO := rfl
/-- is_free: slots 0 way, 1 log, 2 row, 3 inner, 4 number -/
def g_is_free : Sm :=
  (seqS (asgS 3 (eLc (iR2 (e2 pyIx (eV 2) (eC (.int 0))) (e2 pyIx (eV 2) (e1 pyNeg (eC (.int 1))))) (tg1 4) (fT (e2 (pyIn true) (eV 4) (eV 2))) (eV 4) [4]))
  (seqS (ifS (fT (e2 pyEq (e2 pyIx (eV 0) (eC (.int 1))) (eC (.str "strict"))))
    (seqS (retS (e2 pyEq (eV 3) (eLst aN)))
    nextS)
    nextS)
  (seqS (retS (eOr (e2 pyNe (e2 pyIx (eV 0) (eC (.int 1))) (eC (.str "among"))) (eNot (eF pyAny (aC (eLc (iS (eV 3)) (tg1 4) cYes (e2 pyNe (eF m_steps_in (aC (eV 0) (aC (e2 pyIx (e2 pyIx (eV 1) (eV 4)) (eC (.int 1))) aN))) (eLst aN)) [4]) aN)))))
  nextS)))
def m_is_free : List PyData → Option PyData := runG 5 3 g_is_free
theorem c_is_free (a0 a1 a2 : PyData) : m_is_free [a0, a1, a2] = (g_is_free [.dat a0, .dat a1, .dat a2, .no, .no]).bind rtO := rfl
/-- is_chain_in: slots 0 way, 1 log, 2 value, 3 number, 4 kinds, 5 gap, 6 kind -/
def g_is_chain_in : Sm :=
  (seqS (ifS (fT (e2 pyEq (e2 pyIx (eV 0) (eC (.int 1))) (eC (.str "any"))))
    (seqS (retS (eF m_is_any_chain (aC (eV 0) (aC (eV 1) (aC (eV 2) aN)))))
    nextS)
    nextS)
  (seqS (ifS (fOr (fNot (fT (eF m_is_row (aC (eV 1) (aC (eV 2) aN))))) (fT (e2 pyGt (eF pyLen (aC (eV 2) aN)) (eF pyLen (aC (e2 pyIx (eV 0) (eC (.int 0))) aN)))))
    (seqS (retS (eC (.bool false)))
    nextS)
    nextS)
  (seqS (ifS (fNot (fT (eF pyAll (aC (eLc (iZ (eV 2) (e2 pyIx (eV 0) (eC (.int 0)))) (tgN [3, 4]) cYes (e2 (pyIn false) (e2 pyIx (e2 pyIx (eV 1) (eV 3)) (eC (.int 1))) (eV 4)) [3, 4]) aN))))
    (seqS (retS (eC (.bool false)))
    nextS)
    nextS)
  (seqS (ifS (fOr (fNot (fT (eF m_are_near (aC (eV 0) (aC (eV 1) (aC (eV 2) aN)))))) (fNot (fT (eF m_is_free (aC (eV 0) (aC (eV 1) (aC (eV 2) aN)))))))
    (seqS (retS (eC (.bool false)))
    nextS)
    nextS)
  (seqS (retS (eOr (e2 pyNe (e2 pyIx (eV 0) (eC (.int 4))) (eC (.str "first"))) (eNot (eF pyAny (aC (eLc (iS (eSl (eV 1) oN (oS (e2 pyIx (eV 2) (eC (.int 0)))))) (tgN [5, 6]) cYes (e2 (pyIn false) (eC (.int 1)) (eF m_steps_in (aC (eV 0) (aC (eV 6) aN)))) [5, 6]) aN)))))
  nextS)))))
def m_is_chain_in : List PyData → Option PyData := runG 7 3 g_is_chain_in
theorem c_is_chain_in (a0 a1 a2 : PyData) : m_is_chain_in [a0, a1, a2] = (g_is_chain_in [.dat a0, .dat a1, .dat a2, .no, .no, .no, .no]).bind rtO := rfl
/-- is_chain: slots 0 way, 1 log, 2 value -/
def g_is_chain : Sm :=
  (seqS (dropS (eF m_need_way (aC (eV 0) aN)))
  (seqS (retS (eF m_is_chain_in (aC (eV 0) (aC (eF m_need_log (aC (eV 1) aN)) (aC (eV 2) aN)))))
  nextS))
def m_is_chain : List PyData → Option PyData := runG 3 3 g_is_chain
theorem c_is_chain (a0 a1 a2 : PyData) : m_is_chain [a0, a1, a2] = (g_is_chain [.dat a0, .dat a1, .dat a2]).bind rtO := rfl
/-- longest_any: slots 0 way, 1 log, 2 when, 3 best, 4 end, 5 row, 6 kinds, 7 some, 8 one -/
def g_longest_any : Sm :=
  (seqS (unpS (sgN [2, 3]) (eTup (aC (eF m_times_in (aC (eV 1) aN)) (aC (e2 pyRepT (eTup (aC (eC .none) aN)) (eF pyLen (aC (e2 pyIx (eV 0) (eC (.int 0))) aN))) aN))))
  (seqS (forS (iR1 (eF pyLen (aC (eV 1) aN))) (sg1 4)
    (seqS (asgN 5 (eLst aN))
    (seqS (forS (iS (e2 pyIx (eV 0) (eC (.int 0)))) (sg1 6)
      (seqS (asgS 7 (eLc (iR1 (e2 pyAdd (eV 4) (eC (.int 1)))) (tg1 8) (fAnd (fT (e2 (pyIn false) (e2 pyIx (e2 pyIx (eV 1) (eV 8)) (eC (.int 1))) (eV 6))) (fT (e2 pyLe (e2 pySub (e2 pyIx (eV 2) (eV 4)) (e2 pyIx (eV 2) (eV 8))) (e2 pyIx (eV 0) (eC (.int 3)))))) (eV 8) [8]))
      (seqS (appS 5 (eIf (fT (e2 pyNe (eV 7) (eLst aN))) (e2 pyIx (eV 7) (e1 pyNeg (eC (.int 1)))) (eC .none)))
      nextS)))
    (seqS (ifS (fT (e2 pyGt (eF pyLen (aC (eLc (iS (eV 5)) (tg1 8) (fT (e2 pyNotN (eV 8) (eC .none))) (eV 8) [8]) aN)) (eF pyLen (aC (eLc (iS (eV 3)) (tg1 8) (fT (e2 pyNotN (eV 8) (eC .none))) (eV 8) [8]) aN))))
      (seqS (asgS 3 (eF pyTuple (aC (eV 5) aN)))
      nextS)
      nextS)
    nextS))))
  (seqS (retS (eV 3))
  nextS)))
def m_longest_any : List PyData → Option PyData := runG 9 2 g_longest_any
theorem c_longest_any (a0 a1 : PyData) : m_longest_any [a0, a1] = (g_longest_any [.dat a0, .dat a1, .no, .no, .no, .no, .no, .no, .no]).bind rtO := rfl
/-- one_longer: slots 0 way, 1 log, 2 rows, 3 found, 4 row, 5 number, 6 fresh -/
def g_one_longer : Sm :=
  (seqS (asgN 3 eDic)
  (seqS (forS (iS (eV 2)) (sg1 4)
    (seqS (forS (iR2 (e2 pyAdd (e2 pyIx (eV 4) (e1 pyNeg (eC (.int 1)))) (eC (.int 1))) (eF pyLen (aC (eV 1) aN))) (sg1 5)
      (seqS (asgS 6 (eTup (aS (eV 4) (aC (eV 5) aN))))
      (seqS (ifS (fAnd (fT (eF m_is_chain_in (aC (eV 0) (aC (eV 1) (aC (eV 6) aN))))) (fOr (fT (eDNi (eV 5) (eV 3))) (fT (e2 pyLt (e2 pyIx (eDGet (eV 3) (eV 5)) (eC (.int 0))) (e2 pyIx (eV 4) (eC (.int 0)))))))
        (seqS (dpuS 3 (eV 5) (eV 6))
        nextS)
        nextS)
      nextS)))
    nextS))
  (seqS (retS (eVals (eV 3)))
  nextS)))
def m_one_longer : List PyData → Option PyData := runG 7 3 g_one_longer
theorem c_one_longer (a0 a1 a2 : PyData) : m_one_longer [a0, a1, a2] = (g_one_longer [.dat a0, .dat a1, .dat a2, .no, .no, .no, .no]).bind rtO := rfl
/-- chain: slots 0 way, 1 log, 2 found, 3 rows, 4 best, 5 number, 6 one -/
def g_chain : Sm :=
  (seqS (dropS (eF m_need_way (aC (eV 0) aN)))
  (seqS (dropS (eF m_need_log (aC (eV 1) aN)))
  (seqS (ifS (fT (e2 pyEq (e2 pyIx (eV 0) (eC (.int 1))) (eC (.str "any"))))
    (seqS (asgS 2 (eF m_longest_any (aC (eV 0) (aC (eV 1) aN))))
    (seqS (retS (eIf (fT (eF pyAll (aC (eLc (iS (eV 2)) (tg1 6) cYes (e2 pyIsN (eV 6) (eC .none)) [6]) aN))) (eC .none) (eV 2)))
    nextS))
    nextS)
  (seqS (asgS 3 (eLc (iR1 (eF pyLen (aC (eV 1) aN))) (tg1 5) (fT (eF m_is_chain_in (aC (eV 0) (aC (eV 1) (aC (eTup (aC (eV 5) aN)) aN))))) (eTup (aC (eV 5) aN)) [5]))
  (seqS (asgS 4 (eIf (fT (e2 pyNe (eV 3) (eLst aN))) (e2 pyIx (eV 3) (eC (.int 0))) (eC .none)))
  (seqS (whl (fT (e2 pyNe (eV 3) (eLst aN)))
    (seqS (asgS 4 (e2 pyIx (eV 3) (eC (.int 0))))
    (seqS (asgS 3 (eIf (fT (e2 pyLt (eF pyLen (aC (eV 4) aN)) (eF pyLen (aC (e2 pyIx (eV 0) (eC (.int 0))) aN)))) (eF m_one_longer (aC (eV 0) (aC (eV 1) (aC (eV 3) aN)))) (eLst aN)))
    nextS)) 20)
  (seqS (retS (eV 4))
  nextS)))))))
def m_chain : List PyData → Option PyData := runG 7 2 g_chain
theorem c_chain (a0 a1 : PyData) : m_chain [a0, a1] = (g_chain [.dat a0, .dat a1, .no, .no, .no, .no, .no]).bind rtO := rfl
/-- law_when: slots 0 _law_log_here, 1 _law_found, 2 _law_so_far, 3 _law_gap, 4 _law_kind -/
def g_law_when : Sm :=
  (seqS (parN 1 2 (eLst aN) (eC (.int 0)))
  (seqS (forS (iS (eV 0)) (sgN [3, 4])
    (seqS (asgS 2 (e2 pyAdd (eV 2) (eV 3)))
    (seqS (appS 1 (eV 2))
    nextS)))
  (seqS (retS (eV 1))
  nextS)))
def m_law_when : List PyData → Option PyData := runG 5 1 g_law_when
theorem c_law_when (a0 : PyData) : m_law_when [a0] = (g_law_when [.dat a0, .no, .no, .no, .no]).bind rtO := rfl
/-- law_is_of: slots 0 _law_way_here, 1 _law_kind, 2 _law_number -/
def g_law_is_of : Sm :=
  (seqS (retS (eLc (iR1 (eF pyLen (aC (e2 pyIx (eV 0) (eC (.int 0))) aN))) (tg1 2) (fT (e2 (pyIn false) (eV 1) (e2 pyIx (e2 pyIx (eV 0) (eC (.int 0))) (eV 2)))) (e2 pyAdd (eV 2) (eC (.int 1))) [2]))
  nextS)
def m_law_is_of : List PyData → Option PyData := runG 3 2 g_law_is_of
theorem c_law_is_of (a0 a1 : PyData) : m_law_is_of [a0, a1] = (g_law_is_of [.dat a0, .dat a1, .no]).bind rtO := rfl
/-- law_is_good: slots 0 _law_way_here, 1 _law_log_here, 2 _law_row, 3 _law_when_here, 4 _law_wrong, 5 _law_gaps, 6 _law_inner, 7 _law_early, 8 _law_spot, 9 _law_number, 10 _law_one, 11 _law_two, 12 _law_gap, 13 _law_kind -/
def g_law_is_good : Sm :=
  (seqS (asgS 3 (eF m_law_when (aC (eV 1) aN)))
  (seqS (asgS 4 (eLc (iE (eV 2)) (tgN [8, 9]) (fT (e2 (pyIn true) (e2 pyIx (e2 pyIx (eV 1) (eV 9)) (eC (.int 1))) (e2 pyIx (e2 pyIx (eV 0) (eC (.int 0))) (eV 8)))) (eC (.int 1)) [8, 9]))
  (seqS (asgS 5 (eLc (iZ (eV 2) (eSl (eV 2) (oS (eC (.int 1))) oN)) (tgN [10, 11]) cYes (e2 pySub (e2 pyIx (eV 3) (eV 11)) (e2 pyIx (eV 3) (eV 10))) [10, 11]))
  (seqS (ifS (fT (e2 pyEq (e2 pyIx (eV 0) (eC (.int 2))) (eC (.str "whole"))))
    (seqS (asgS 5 (eLst (aC (e2 pySub (e2 pyIx (eV 3) (e2 pyIx (eV 2) (e1 pyNeg (eC (.int 1))))) (e2 pyIx (eV 3) (e2 pyIx (eV 2) (eC (.int 0))))) aN)))
    nextS)
    nextS)
  (seqS (ifS (fOr (fT (e2 pyNe (eV 4) (eLst aN))) (fT (e2 pyGt (eF pyMax1 (aC (e2 pyAdd (eLst (aC (eC (.int 0)) aN)) (eV 5)) aN)) (e2 pyIx (eV 0) (eC (.int 3))))))
    (seqS (retS (eC (.bool false)))
    nextS)
    nextS)
  (seqS (asgS 6 (eLc (iR2 (e2 pyIx (eV 2) (eC (.int 0))) (e2 pyIx (eV 2) (e1 pyNeg (eC (.int 1))))) (tg1 9) (fT (e2 (pyIn true) (eV 9) (eV 2))) (eV 9) [9]))
  (seqS (ifS (fT (e2 pyEq (e2 pyIx (eV 0) (eC (.int 1))) (eC (.str "among"))))
    (seqS (asgS 6 (eLc (iS (eV 6)) (tg1 9) (fT (e2 pyNe (eF m_law_is_of (aC (eV 0) (aC (e2 pyIx (e2 pyIx (eV 1) (eV 9)) (eC (.int 1))) aN))) (eLst aN))) (eV 9) [9]))
    nextS)
    nextS)
  (seqS (ifS (fAnd (fT (e2 (pyIn false) (e2 pyIx (eV 0) (eC (.int 1))) (eTup (aC (eC (.str "among")) (aC (eC (.str "strict")) aN))))) (fT (e2 pyNe (eV 6) (eLst aN))))
    (seqS (retS (eC (.bool false)))
    nextS)
    nextS)
  (seqS (asgS 7 (eLc (iS (eSl (eV 1) oN (oS (e2 pyIx (eV 2) (eC (.int 0)))))) (tgN [12, 13]) (fT (e2 (pyIn false) (eV 13) (e2 pyIx (e2 pyIx (eV 0) (eC (.int 0))) (eC (.int 0))))) (eC (.int 1)) [12, 13]))
  (seqS (retS (eOr (e2 pyEq (e2 pyIx (eV 0) (eC (.int 4))) (eC (.str "all"))) (e2 pyEq (eV 7) (eLst aN))))
  nextS))))))))))
def m_law_is_good : List PyData → Option PyData := runG 14 3 g_law_is_good
theorem c_law_is_good (a0 a1 a2 : PyData) : m_law_is_good [a0, a1, a2] = (g_law_is_good [.dat a0, .dat a1, .dat a2, .no, .no, .no, .no, .no, .no, .no, .no, .no, .no, .no]).bind rtO := rfl
/-- law_chains: slots 0 _law_way_here, 1 _law_log_here, 2 _law_rows, 3 _law_found, 4 _law_fresh, 5 _law_row, 6 _law_begin, 7 _law_number -/
def g_law_chains : Sm :=
  (seqS (parN 2 3 (eLst (aC (eTup aN) aN)) (eLst aN))
  (seqS (whl (fT (e2 pyNe (eV 2) (eLst aN)))
    (seqS (asgS 4 (eLst aN))
    (seqS (forS (iS (eV 2)) (sg1 5)
      (seqS (asgS 6 (eIf (fT (e2 pyNe (eV 5) (eTup aN))) (e2 pyAdd (e2 pyIx (eV 5) (e1 pyNeg (eC (.int 1)))) (eC (.int 1))) (eC (.int 0))))
      (seqS (asgS 4 (e2 pyAdd (eV 4) (eLc (iR2 (eV 6) (eF pyLen (aC (eV 1) aN))) (tg1 7) cYes (e2 pyAdd (eV 5) (eTup (aC (eV 7) aN))) [7])))
      nextS)))
    (seqS (asgN 2 (eLst aN))
    (seqS (forS (iS (eV 4)) (sg1 5)
      (seqS (ifS (fAnd (fT (e2 pyLe (eF pyLen (aC (eV 5) aN)) (eF pyLen (aC (e2 pyIx (eV 0) (eC (.int 0))) aN)))) (fT (eF m_law_is_good (aC (eV 0) (aC (eV 1) (aC (eV 5) aN))))))
        (seqS (appS 2 (eV 5))
        nextS)
        nextS)
      nextS))
    (seqS (asgS 3 (e2 pyAdd (eV 3) (eV 2)))
    nextS))))) 20)
  (seqS (retS (eV 3))
  nextS)))
def m_law_chains : List PyData → Option PyData := runG 8 2 g_law_chains
theorem c_law_chains (a0 a1 : PyData) : m_law_chains [a0, a1] = (g_law_chains [.dat a0, .dat a1, .no, .no, .no, .no, .no, .no]).bind rtO := rfl
/-- law_most_near: slots 0 _law_way_here, 1 _law_log_here, 2 _law_when_here, 3 _law_best, 4 _law_end, 5 _law_seen, 6 _law_number -/
def g_law_most_near : Sm :=
  (seqS (parS 2 3 (eF m_law_when (aC (eV 1) aN)) (eC (.int 0)))
  (seqS (forS (iR1 (eF pyLen (aC (eV 1) aN))) (sg1 4)
    (seqS (asgS 5 (eLst aN))
    (seqS (forS (iR1 (e2 pyAdd (eV 4) (eC (.int 1)))) (sg1 6)
      (seqS (ifS (fT (e2 pyLe (e2 pySub (e2 pyIx (eV 2) (eV 4)) (e2 pyIx (eV 2) (eV 6))) (e2 pyIx (eV 0) (eC (.int 3)))))
        (seqS (asgS 5 (e2 pyAdd (eV 5) (eF m_law_is_of (aC (eV 0) (aC (e2 pyIx (e2 pyIx (eV 1) (eV 6)) (eC (.int 1))) aN)))))
        nextS)
        nextS)
      nextS))
    (seqS (asgS 3 (eF pyMax2 (aC (eV 3) (aC (eLenSet (eV 5)) aN))))
    nextS))))
  (seqS (retS (eV 3))
  nextS)))
def m_law_most_near : List PyData → Option PyData := runG 7 2 g_law_most_near
theorem c_law_most_near (a0 a1 : PyData) : m_law_most_near [a0, a1] = (g_law_most_near [.dat a0, .dat a1, .no, .no, .no, .no, .no]).bind rtO := rfl
/-- law_level: slots 0 _law_way_here, 1 _law_log_here, 2 _law_row -/
def g_law_level : Sm :=
  (seqS (ifS (fT (e2 pyEq (e2 pyIx (eV 0) (eC (.int 1))) (eC (.str "any"))))
    (seqS (retS (eF m_law_most_near (aC (eV 0) (aC (eV 1) aN))))
    nextS)
    nextS)
  (seqS (retS (eF pyMax1 (aC (e2 pyAdd (eLst (aC (eC (.int 0)) aN)) (eLc (iS (eF m_law_chains (aC (eV 0) (aC (eV 1) aN)))) (tg1 2) cYes (eF pyLen (aC (eV 2) aN)) [2])) aN)))
  nextS))
def m_law_level : List PyData → Option PyData := runG 3 2 g_law_level
theorem c_law_level (a0 a1 : PyData) : m_law_level [a0, a1] = (g_law_level [.dat a0, .dat a1, .no]).bind rtO := rfl
/-- law_is_any: slots 0 _law_way_here, 1 _law_log_here, 2 _law_row, 3 _law_some_here, 4 _law_when_here, 5 _law_numbers, 6 _law_wrong, 7 _law_spot, 8 _law_number -/
def g_law_is_any : Sm :=
  (seqS (asgS 3 (eLc (iE (eV 2)) (tgN [7, 8]) (fT (e2 pyNotN (eV 8) (eC .none))) (eTup (aC (eV 7) (aC (eV 8) aN))) [7, 8]))
  (seqS (parS 4 5 (eF m_law_when (aC (eV 1) aN)) (eLc (iS (eV 3)) (tgN [7, 8]) cYes (eV 8) [7, 8]))
  (seqS (asgS 6 (eLc (iS (eV 3)) (tgN [7, 8]) (fT (e2 (pyIn true) (e2 pyIx (e2 pyIx (eV 1) (eV 8)) (eC (.int 1))) (e2 pyIx (e2 pyIx (eV 0) (eC (.int 0))) (eV 7)))) (eC (.int 1)) [7, 8]))
  (seqS (ifS (fOr (fT (e2 pyEq (eV 3) (eLst aN))) (fT (e2 pyNe (eV 6) (eLst aN))))
    (seqS (retS (eC (.bool false)))
    nextS)
    nextS)
  (seqS (retS (eAnd (e2 pyEq (eF pyLen (aC (eV 2) aN)) (eF pyLen (aC (e2 pyIx (eV 0) (eC (.int 0))) aN))) (e2 pyLe (e2 pySub (e2 pyIx (eV 4) (eF pyMax1 (aC (eV 5) aN))) (e2 pyIx (eV 4) (eF pyMin1 (aC (eV 5) aN)))) (e2 pyIx (eV 0) (eC (.int 3))))))
  nextS)))))
def m_law_is_any : List PyData → Option PyData := runG 9 3 g_law_is_any
theorem c_law_is_any (a0 a1 a2 : PyData) : m_law_is_any [a0, a1, a2] = (g_law_is_any [.dat a0, .dat a1, .dat a2, .no, .no, .no, .no, .no, .no]).bind rtO := rfl
/-- law_chain_right: slots 0 _law_way_here, 1 _law_log_here, 2 _law_due, 3 _law_row, 4 _law_one -/
def g_law_chain_right : Sm :=
  (seqS (asgS 3 (eF m_chain (aC (eV 0) (aC (eV 1) aN))))
  (seqS (ifS (fOr (fT (e2 pyEq (eV 2) (eC (.int 0)))) (fT (e2 pyIsN (eV 3) (eC .none))))
    (seqS (retS (eAnd (e2 pyEq (eV 2) (eC (.int 0))) (e2 pyIsN (eV 3) (eC .none))))
    nextS)
    nextS)
  (seqS (ifS (fOr (fNot (fT (eIsi "tuple" (eV 3)))) (fOr (fT (e2 pyNotB (eF m_is_chain (aC (eV 0) (aC (eV 1) (aC (eV 3) aN)))) (eC (.bool true)))) (fT (e2 pyNe (eF m_chain (aC (eV 0) (aC (eV 1) aN))) (eV 3)))))
    (seqS (retS (eC (.bool false)))
    nextS)
    nextS)
  (seqS (ifS (fT (e2 pyEq (e2 pyIx (eV 0) (eC (.int 1))) (eC (.str "any"))))
    (seqS (retS (eAnd (eF m_law_is_any (aC (eV 0) (aC (eV 1) (aC (eV 3) aN)))) (e2 pyEq (eF pyLen (aC (eLc (iS (eV 3)) (tg1 4) (fT (e2 pyNotN (eV 4) (eC .none))) (eV 4) [4]) aN)) (eV 2))))
    nextS)
    nextS)
  (seqS (ifS (fOr (fT (e2 pyNe (eF pyList (aC (eV 3) aN)) (eSortSet (eV 3)))) (fT (e2 pyNe (eF pyLen (aC (eV 3) aN)) (eV 2))))
    (seqS (retS (eC (.bool false)))
    nextS)
    nextS)
  (seqS (retS (eF m_law_is_good (aC (eV 0) (aC (eV 1) (aC (eV 3) aN)))))
  nextS))))))
def m_law_chain_right : List PyData → Option PyData := runG 5 3 g_law_chain_right
theorem c_law_chain_right (a0 a1 a2 : PyData) : m_law_chain_right [a0, a1, a2] = (g_law_chain_right [.dat a0, .dat a1, .dat a2, .no, .no]).bind rtO := rfl
end Sb
end
section
set_option Elab.async false
set_option linter.all false
set_option maxRecDepth 100000
set_option maxHeartbeats 4000000
/-! How the defs stand (printed by gen.py). -/
namespace Sb
open PySem PySem.Spec L2
open PyProof.Rows hiding St
def topS (i : Nat) : Stmt := PySem.Challenge.pw_stepsbehind_k10_whole_levels.main.body.getD i (.Pass ⟨0, 0, 0, 0⟩)
/-- the names of the module that the defs lean on -/
structure Mg (mg : Str → Option Value) : Prop where
  len : mg "len" = none
  all : mg "all" = none
  any : mg "any" = none
  sorted : mg "sorted" = none
  max : mg "max" = none
  min : mg "min" = none
  list : mg "list" = none
  tuple : mg "tuple" = none
  set : mg "set" = none
  isinstance : mg "isinstance" = none
  range : mg "range" = none
  enumerate : mg "enumerate" = none
  zip : mg "zip" = none
  int : mg "int" = none
  bool : mg "bool" = none
  str : mg "str" = none
  repr : mg "repr" = none
  cMOST_KIND : ∃ t, mg "MOST_KIND" = some (.int 4 t)
  cMOST_STEPS : ∃ t, mg "MOST_STEPS" = some (.int 4 t)
  cMOST_WINDOW : ∃ t, mg "MOST_WINDOW" = some (.int 8 t)
  cLOOSE : ∃ t, mg "LOOSE" = some (.str "loose" t)
  cAMONG : ∃ t, mg "AMONG" = some (.str "among" t)
  cSTRICT : ∃ t, mg "STRICT" = some (.str "strict" t)
  cANY : ∃ t, mg "ANY" = some (.str "any" t)
  cWHOLE : ∃ t, mg "WHOLE" = some (.str "whole" t)
  cEACH : ∃ t, mg "EACH" = some (.str "each" t)
  cALL : ∃ t, mg "ALL" = some (.str "all" t)
  cFIRST : ∃ t, mg "FIRST" = some (.str "first" t)
  cMOST_GAP : ∃ t, mg "MOST_GAP" = some (.int 1000000000000000000000000000000 t)
structure Df (K : PySem.W.Frag) (mg : Str → Option Value) (x : Str) (st : Stmt) (ps : List Str) : Prop where
  ex : ∃ f fd, Fun K x x st f fd ∧ mg x = some (.ref f) ∧ Binds K fd ps []
structure Dk (P : Program) (w : World) (K : PySem.W.Frag) (mg : Str → Option Value) (base : Heap) (k : Nat) (x : Str) (ps : List Str) (sp : Sp) : Prop where
  ex : ∃ f fd, FnOk P w K mg base CX0 k f fd ps sp ∧ mg x = some (.ref f) ∧ PySem.W.keepIn K (.ref f) = true ∧ Binds K fd ps []
theorem def_dk {P : Program} {w : World} {K : PySem.W.Frag} {mg : Str → Option Value} {base : Heap} {x : Str} {st : Stmt} {N ps : List Str} {k : Nat} {g : Sm} (F : Df K mg x st ps) (S : FnScope N ps (defScope st))
    (hb : ∀ (cdv : Value) (A : Around) (outer : List Env) (s : Shared) (H : Hp) (E : XK) (fa : Addr), Room k (A.deeper (envOfC x (defScope st) s.heap.objs.size fa cdv)) → PSs (cxOf CX0 P w K mg base N x (defScope st) fa cdv A outer s H E).nox (defBody st) (tS g)) :
    Dk P w K mg base (k + 1) x ps (spD (runG N.length ps.length g)) := by
  obtain ⟨f, fd, h1, h2, h3⟩ := F.ex
  exact ⟨f, fd, def_ok h1 S (fun cdv A outer s H E hr => hb cdv A outer s H E f hr), h2, h1.kp, h3⟩
section
variable {X : Cx} {a e : Expr} {es : List Expr} {fa : En → Option PyData} {pos p : Pos}
theorem pd_callD {x : Str} {k : Nat} {ps : List Str} {m : List PyData → Option PyData} {fs : En → Option (List PyData)} (D : Dk X.prog X.w X.K X.mg X.base k x ps (spD m)) (hr : Room k X.A)
    (ha : PA X (e :: es) (tDs fs)) (hg : Gl X x := by rfl) (hdb : (x == ("__debug__" : Str)) = false := by decide) (he : starEach (e :: es) X.env = (false, eval e X.env) :: starEach es X.env := by rfl) (hpl : (backTo pos (starEach es X.env)).any (·.1) = false := by rfl) :
    PE X (.Call (.Name x p) (e :: es) [] pos) (tD (eF m fs)) := by
  obtain ⟨f, fd, h1, h2, h3, h4⟩ := D.ex
  exact pd_call (CX := CX0) h1 hr h2 h3 h4 ha hg hdb he hpl
theorem s_drop (he : PE X e (tD fa)) (hs : swapsWith e none pos.line X.env = pure false := by rfl) : PS X (.Expr e pos) (tS (dropS fa)) := PS.weak (ps_expr he hs) fun D σ H ⟨G0, H0, env, o, ⟨G, r⟩, h, q⟩ => by
  obtain ⟨⟨d, env'⟩, h1, rfl⟩ := Option.map_eq_some_iff.mp h
  exact ev_run r h1 _ fun v G' H' _ _ r' rv => q _ _ ⟨G', r'⟩
theorem pd_neg (ha : PE X a (tD fa)) : PE X (.UnaryOp .USub a pos) (tD (e1 pyNeg fa)) := pd_of (pe_un un_neg ha) fun G σ env d ok h H s Q q => by
  obtain ⟨x, h1, h2⟩ := Option.bind_eq_some_iff.mp h
  cases x <;> first | (cases h2; done) | skip
  cases h2
  exact ⟨G, env, _, s, ok, h1, fun v G1 H1 m1 d1 => ⟨_, d1.int', q _ G1 H1 m1 (.int _)⟩⟩
theorem pd_gint' {x : Str} {i : Int} (hm : ∃ t, X.mg x = some (.int i t)) (hg : Gl X x := by rfl) (hd : (x == ("__debug__" : Str)) = false := by decide) : PE X (.Name x pos) (tD (eC (.int i))) := let ⟨_, h⟩ := hm; pd_gint h hg hd
theorem pd_gstr' {x : Str} {i : Str} (hm : ∃ t, X.mg x = some (.str i t)) (hg : Gl X x := by rfl) (hd : (x == ("__debug__" : Str)) = false := by decide) : PE X (.Name x pos) (tD (eC (.str i))) := let ⟨_, h⟩ := hm; pd_gstr h hg hd
end
theorem rd_lt : RD (rI0 fun i j => .bl (decide (i < j))) pyLt := rd_cmp
theorem rd_le : RD (rI0 fun i j => .bl (decide (i ≤ j))) pyLe := rd_cmp
theorem rd_gt : RD (rI0 fun i j => .bl (decide (j < i))) pyGt := rd_cmp
theorem rd_ge : RD (rI0 fun i j => .bl (decide (j ≤ i))) pyGe := rd_cmp
abbrev sT_is_integer : Stmt := topS 16
theorem sc_is_integer : FnScope ["value", "least", "most"] ["value", "least", "most"] (defScope sT_is_integer) := ⟨rfl, rfl, rfl, by decide +kernel, rfl, by decide +kernel, by decide +kernel⟩
abbrev sT_is_word : Stmt := topS 17
theorem sc_is_word : FnScope ["value", "words"] ["value", "words"] (defScope sT_is_word) := ⟨rfl, rfl, rfl, by decide +kernel, rfl, by decide +kernel, by decide +kernel⟩
abbrev sT_are_kinds : Stmt := topS 18
theorem sc_are_kinds : FnScope ["value", "one", "other"] ["value"] (defScope sT_are_kinds) := ⟨rfl, rfl, rfl, by decide +kernel, rfl, by decide +kernel, by decide +kernel⟩
abbrev sT_are_steps : Stmt := topS 19
theorem sc_are_steps : FnScope ["value", "one"] ["value"] (defScope sT_are_steps) := ⟨rfl, rfl, rfl, by decide +kernel, rfl, by decide +kernel, by decide +kernel⟩
abbrev sT_wrong_place : Stmt := topS 20
theorem sc_wrong_place : FnScope ["thing"] ["thing"] (defScope sT_wrong_place) := ⟨rfl, rfl, rfl, by decide +kernel, rfl, by decide +kernel, by decide +kernel⟩
abbrev sT_need_way : Stmt := topS 21
theorem sc_need_way : FnScope ["thing", "place"] ["thing"] (defScope sT_need_way) := ⟨rfl, rfl, rfl, by decide +kernel, rfl, by decide +kernel, by decide +kernel⟩
abbrev sT_steps_in : Stmt := topS 22
theorem sc_steps_in : FnScope ["way", "kind", "number", "kinds"] ["way", "kind"] (defScope sT_steps_in) := ⟨rfl, rfl, rfl, by decide +kernel, rfl, by decide +kernel, by decide +kernel⟩
abbrev sT_is_event : Stmt := topS 25
theorem sc_is_event : FnScope ["value"] ["value"] (defScope sT_is_event) := ⟨rfl, rfl, rfl, by decide +kernel, rfl, by decide +kernel, by decide +kernel⟩
abbrev sT_need_log : Stmt := topS 26
theorem sc_need_log : FnScope ["thing", "one"] ["thing"] (defScope sT_need_log) := ⟨rfl, rfl, rfl, by decide +kernel, rfl, by decide +kernel, by decide +kernel⟩
abbrev sT_times_in : Stmt := topS 27
theorem sc_times_in : FnScope ["log", "found", "total", "gap", "kind"] ["log"] (defScope sT_times_in) := ⟨rfl, rfl, rfl, by decide +kernel, rfl, by decide +kernel, by decide +kernel⟩
abbrev sT_first_in : Stmt := topS 29
theorem sc_first_in : FnScope ["way"] ["way"] (defScope sT_first_in) := ⟨rfl, rfl, rfl, by decide +kernel, rfl, by decide +kernel, by decide +kernel⟩
abbrev sT_grown : Stmt := topS 30
theorem sc_grown : FnScope ["ages", "gap", "window", "age"] ["ages", "gap", "window"] (defScope sT_grown) := ⟨rfl, rfl, rfl, by decide +kernel, rfl, by decide +kernel, by decide +kernel⟩
abbrev sT_came : Stmt := topS 31
theorem sc_came : FnScope ["way", "begun", "ages", "kind", "found", "steps", "step"] ["way", "begun", "ages", "kind"] (defScope sT_came) := ⟨rfl, rfl, rfl, by decide +kernel, rfl, by decide +kernel, by decide +kernel⟩
abbrev sT_lesser : Stmt := topS 32
theorem sc_lesser : FnScope ["one", "other"] ["one", "other"] (defScope sT_lesser) := ⟨rfl, rfl, rfl, by decide +kernel, rfl, by decide +kernel, by decide +kernel⟩
abbrev sT_behind_in : Stmt := topS 33
theorem sc_behind_in : FnScope ["way", "standing", "event", "best", "begun", "ages", "gap", "kind", "steps", "fresh", "number", "age", "other"] ["way", "standing", "event"] (defScope sT_behind_in) := ⟨rfl, rfl, rfl, by decide +kernel, rfl, by decide +kernel, by decide +kernel⟩
abbrev sT_behind_all : Stmt := topS 34
theorem sc_behind_all : FnScope ["way", "log", "found", "event"] ["way", "log"] (defScope sT_behind_all) := ⟨rfl, rfl, rfl, by decide +kernel, rfl, by decide +kernel, by decide +kernel⟩
abbrev sT_standing_of : Stmt := topS 35
theorem sc_standing_of : FnScope ["way", "log"] ["way", "log"] (defScope sT_standing_of) := ⟨rfl, rfl, rfl, by decide +kernel, rfl, by decide +kernel, by decide +kernel⟩
abbrev sT_level : Stmt := topS 37
theorem sc_level : FnScope ["way", "log"] ["way", "log"] (defScope sT_level) := ⟨rfl, rfl, rfl, by decide +kernel, rfl, by decide +kernel, by decide +kernel⟩
abbrev sT_is_row : Stmt := topS 38
theorem sc_is_row : FnScope ["log", "value", "one", "other"] ["log", "value"] (defScope sT_is_row) := ⟨rfl, rfl, rfl, by decide +kernel, rfl, by decide +kernel, by decide +kernel⟩
abbrev sT_are_near : Stmt := topS 39
theorem sc_are_near : FnScope ["way", "log", "row", "when", "one", "other"] ["way", "log", "row"] (defScope sT_are_near) := ⟨rfl, rfl, rfl, by decide +kernel, rfl, by decide +kernel, by decide +kernel⟩
abbrev sT_is_any_chain : Stmt := topS 40
theorem sc_is_any_chain : FnScope ["way", "log", "value", "some", "number", "one"] ["way", "log", "value"] (defScope sT_is_any_chain) := ⟨rfl, rfl, rfl, by decide +kernel, rfl, by decide +kernel, by decide +kernel⟩
abbrev sT_is_free : Stmt := topS 41
theorem sc_is_free : FnScope ["way", "log", "row", "inner", "number"] ["way", "log", "row"] (defScope sT_is_free) := ⟨rfl, rfl, rfl, by decide +kernel, rfl, by decide +kernel, by decide +kernel⟩
abbrev sT_is_chain_in : Stmt := topS 42
theorem sc_is_chain_in : FnScope ["way", "log", "value", "number", "kinds", "gap", "kind"] ["way", "log", "value"] (defScope sT_is_chain_in) := ⟨rfl, rfl, rfl, by decide +kernel, rfl, by decide +kernel, by decide +kernel⟩
abbrev sT_is_chain : Stmt := topS 43
theorem sc_is_chain : FnScope ["way", "log", "value"] ["way", "log", "value"] (defScope sT_is_chain) := ⟨rfl, rfl, rfl, by decide +kernel, rfl, by decide +kernel, by decide +kernel⟩
abbrev sT_longest_any : Stmt := topS 44
theorem sc_longest_any : FnScope ["way", "log", "when", "best", "end", "row", "kinds", "some", "one"] ["way", "log"] (defScope sT_longest_any) := ⟨rfl, rfl, rfl, by decide +kernel, rfl, by decide +kernel, by decide +kernel⟩
abbrev sT_one_longer : Stmt := topS 45
theorem sc_one_longer : FnScope ["way", "log", "rows", "found", "row", "number", "fresh"] ["way", "log", "rows"] (defScope sT_one_longer) := ⟨rfl, rfl, rfl, by decide +kernel, rfl, by decide +kernel, by decide +kernel⟩
abbrev sT_chain : Stmt := topS 46
theorem sc_chain : FnScope ["way", "log", "found", "rows", "best", "number", "one"] ["way", "log"] (defScope sT_chain) := ⟨rfl, rfl, rfl, by decide +kernel, rfl, by decide +kernel, by decide +kernel⟩
abbrev sT_law_when : Stmt := topS 54
theorem sc_law_when : FnScope ["_law_log_here", "_law_found", "_law_so_far", "_law_gap", "_law_kind"] ["_law_log_here"] (defScope sT_law_when) := ⟨rfl, rfl, rfl, by decide +kernel, rfl, by decide +kernel, by decide +kernel⟩
abbrev sT_law_is_of : Stmt := topS 55
theorem sc_law_is_of : FnScope ["_law_way_here", "_law_kind", "_law_number"] ["_law_way_here", "_law_kind"] (defScope sT_law_is_of) := ⟨rfl, rfl, rfl, by decide +kernel, rfl, by decide +kernel, by decide +kernel⟩
abbrev sT_law_is_good : Stmt := topS 56
theorem sc_law_is_good : FnScope ["_law_way_here", "_law_log_here", "_law_row", "_law_when_here", "_law_wrong", "_law_gaps", "_law_inner", "_law_early", "_law_spot", "_law_number", "_law_one", "_law_two", "_law_gap", "_law_kind"] ["_law_way_here", "_law_log_here", "_law_row"] (defScope sT_law_is_good) := ⟨rfl, rfl, rfl, by decide +kernel, rfl, by decide +kernel, by decide +kernel⟩
abbrev sT_law_chains : Stmt := topS 57
theorem sc_law_chains : FnScope ["_law_way_here", "_law_log_here", "_law_rows", "_law_found", "_law_fresh", "_law_row", "_law_begin", "_law_number"] ["_law_way_here", "_law_log_here"] (defScope sT_law_chains) := ⟨rfl, rfl, rfl, by decide +kernel, rfl, by decide +kernel, by decide +kernel⟩
abbrev sT_law_most_near : Stmt := topS 58
theorem sc_law_most_near : FnScope ["_law_way_here", "_law_log_here", "_law_when_here", "_law_best", "_law_end", "_law_seen", "_law_number"] ["_law_way_here", "_law_log_here"] (defScope sT_law_most_near) := ⟨rfl, rfl, rfl, by decide +kernel, rfl, by decide +kernel, by decide +kernel⟩
abbrev sT_law_level : Stmt := topS 59
theorem sc_law_level : FnScope ["_law_way_here", "_law_log_here", "_law_row"] ["_law_way_here", "_law_log_here"] (defScope sT_law_level) := ⟨rfl, rfl, rfl, by decide +kernel, rfl, by decide +kernel, by decide +kernel⟩
abbrev sT_law_is_any : Stmt := topS 60
theorem sc_law_is_any : FnScope ["_law_way_here", "_law_log_here", "_law_row", "_law_some_here", "_law_when_here", "_law_numbers", "_law_wrong", "_law_spot", "_law_number"] ["_law_way_here", "_law_log_here", "_law_row"] (defScope sT_law_is_any) := ⟨rfl, rfl, rfl, by decide +kernel, rfl, by decide +kernel, by decide +kernel⟩
abbrev sT_law_chain_right : Stmt := topS 61
theorem sc_law_chain_right : FnScope ["_law_way_here", "_law_log_here", "_law_due", "_law_row", "_law_one"] ["_law_way_here", "_law_log_here", "_law_due"] (defScope sT_law_chain_right) := ⟨rfl, rfl, rfl, by decide +kernel, rfl, by decide +kernel, by decide +kernel⟩
end Sb
end
section
set_option Elab.async false
set_option linter.all false
set_option maxRecDepth 100000
set_option maxHeartbeats 4000000
/-! The derivations (printed by gen.py). -/
namespace Sb
open PySem PySem.Spec L2
open PyProof.Rows hiding St
section
variable {P : Program} {w : World} {K : PySem.W.Frag} {mg : Str → Option Value} {base : Heap}
theorem ok_is_integer (M : Mg mg) (F : Df K mg "is_integer" sT_is_integer ["value", "least", "most"]) : Dk P w K mg base 1 "is_integer" ["value", "least", "most"] (spD m_is_integer) :=
  def_dk F sc_is_integer fun cdv A outer s H E fa hr =>
  (ss_cons (s_ret (pd_and (pd_isi (pd_var 0) M.isinstance M.int boot_int) (pd_and (pd_not (pd_isi (pd_var 0) M.isinstance M.bool boot_bool)) (pd_one (pd_chain op_le rd_le op_le rd_le (pd_var 1) (pd_var 0) (pd_var 2))))))
  ss_nil)
theorem ok_wrong_place (M : Mg mg) (F : Df K mg "wrong_place" sT_wrong_place ["thing"]) (D_is_word : Dk P w K mg base 1 "is_word" ["value", "words"] (spD m_is_word)) (D_is_integer : Dk P w K mg base 1 "is_integer" ["value", "least", "most"] (spD m_is_integer)) (D_are_steps : Dk P w K mg base 3 "are_steps" ["value"] (spD m_are_steps)) : Dk P w K mg base 4 "wrong_place" ["thing"] (spD m_wrong_place) :=
  def_dk F sc_wrong_place fun cdv A outer s H E fa hr =>
  (ss_cons (s_if (PW.pt (tw_or (td_not (td_val (pd_isi (pd_var 0) M.isinstance M.tuple boot_tuple))) (tw_or1 (td_cmp (op_neD hr.units) rd_ne (pd_callB call_len_seq rd_len M.len boot_len (da_cons (pd_var 0) da_nil)) pd_int))))
    (ss_cons (s_ret (pd_tup da_nil))
    ss_nil)
    ss_nil)
  (ss_cons (s_if (td_not (td_val (pd_callD D_are_steps (hr.mono (by decide)) (da_cons (pd_ix ix_any rd_ix (pd_var 0) pd_int) da_nil))))
    (ss_cons (s_ret (pd_tup (da_cons pd_int da_nil)))
    ss_nil)
    ss_nil)
  (ss_cons (s_if (td_not (td_val (pd_callD D_is_word (hr.mono (by decide)) (da_cons (pd_ix ix_any rd_ix (pd_var 0) pd_int) (da_cons (pd_tup (da_cons (pd_gstr' M.cLOOSE) (da_cons (pd_gstr' M.cAMONG) (da_cons (pd_gstr' M.cSTRICT) (da_cons (pd_gstr' M.cANY) da_nil))))) da_nil)))))
    (ss_cons (s_ret (pd_tup (da_cons pd_int da_nil)))
    ss_nil)
    ss_nil)
  (ss_cons (s_if (td_not (td_val (pd_callD D_is_word (hr.mono (by decide)) (da_cons (pd_ix ix_any rd_ix (pd_var 0) pd_int) (da_cons (pd_if (td_cmp (op_eqD hr.units) rd_eq (pd_ix ix_any rd_ix (pd_var 0) pd_int) (pd_gstr' M.cANY)) (pd_tup (da_cons (pd_gstr' M.cWHOLE) da_nil)) (pd_tup (da_cons (pd_gstr' M.cWHOLE) (da_cons (pd_gstr' M.cEACH) da_nil)))) da_nil)))))
    (ss_cons (s_ret (pd_tup (da_cons pd_int da_nil)))
    ss_nil)
    ss_nil)
  (ss_cons (s_if (td_not (td_val (pd_callD D_is_integer (hr.mono (by decide)) (da_cons (pd_ix ix_any rd_ix (pd_var 0) pd_int) (da_cons pd_int (da_cons (pd_gint' M.cMOST_WINDOW) da_nil))))))
    (ss_cons (s_ret (pd_tup (da_cons pd_int da_nil)))
    ss_nil)
    ss_nil)
  (ss_cons (s_ret (pd_if (td_val (pd_callD D_is_word (hr.mono (by decide)) (da_cons (pd_ix ix_any rd_ix (pd_var 0) pd_int) (da_cons (pd_if (td_cmp (op_eqD hr.units) rd_eq (pd_ix ix_any rd_ix (pd_var 0) pd_int) (pd_gstr' M.cANY)) (pd_tup (da_cons (pd_gstr' M.cALL) da_nil)) (pd_tup (da_cons (pd_gstr' M.cALL) (da_cons (pd_gstr' M.cFIRST) da_nil)))) da_nil)))) pd_non (pd_tup (da_cons pd_int da_nil))))
  ss_nil))))))
theorem ok_need_log (M : Mg mg) (F : Df K mg "need_log" sT_need_log ["thing"]) (D_is_event : Dk P w K mg base 2 "is_event" ["value"] (spD m_is_event)) : Dk P w K mg base 3 "need_log" ["thing"] (spD m_need_log) :=
  def_dk F sc_need_log fun cdv A outer s H E fa hr =>
  (ss_cons (s_if (PW.pt (tw_or (td_not (td_val (pd_isi (pd_var 0) M.isinstance M.tuple boot_tuple))) (tw_or1 (td_not (td_val (pd_callB (cr_all rfl) rd_all M.all boot_all (da_cons (pd_lc (own := [("one", 1)]) (blkOk_by (N := ["thing", "one"]) (sc := defScope sT_need_log) (by decide +kernel)) (di_seq (pd_var 0)) (fun _ _ _ _ _ => (pg_name (i := 1) sc_need_log.nd rfl (Or.inl rfl))) (fun _ _ _ _ _ => pts_nil) (fun _ _ _ _ _ => (pd_callD D_is_event (hr.mono (by decide)) (da_cons (pd_var 1) da_nil))) (gd_1 1) cd_yes sc_need_log.nd) da_nil)))))))
    (ss_cons s_never
    ss_nil)
    ss_nil)
  (ss_cons (s_ret (pd_var 0))
  ss_nil))
theorem ok_came (M : Mg mg) (F : Df K mg "came" sT_came ["way", "begun", "ages", "kind"]) (D_steps_in : Dk P w K mg base 1 "steps_in" ["way", "kind"] (spD m_steps_in)) : Dk P w K mg base 2 "came" ["way", "begun", "ages", "kind"] (spD m_came) :=
  def_dk F sc_came fun cdv A outer s H E fa hr =>
  (ss_cons (s_parN (i := 4) (j := 5) rfl rfl (by decide) (pe_op op_rep (pd_lst (da_cons pd_non da_nil)) (pd_callB call_len_seq rd_len M.len boot_len (da_cons (pd_ix ix_any rd_ix (pd_var 0) pd_int) da_nil))) new_rep (pd_callD D_steps_in (hr.mono (by decide)) (da_cons (pd_var 0) (da_cons (pd_var 3) da_nil))) sc_came.nd)
  (ss_cons (s_for PassesOwn.never (di_seq (pd_var 5)) (pg_name (i := 6) sc_came.nd rfl (Or.inl rfl)) (gs_1 6)
    (ss_cons (s_if (td_cmp (op_eqD hr.units) rd_eq (pd_var 6) pd_int)
      (ss_cons (s_sto (pd_if (PW.pt (tw_and (td_cmp (op_eqD hr.units) rd_eq (pd_ix ix_any rd_ix (pd_var 0) pd_int) (pd_gstr' M.cFIRST)) (tw_and1 (td_val (pd_var 1))))) pd_non pd_int) (pg_sub (pv 4) pd_int set_list))
      ss_nil)
      (ss_cons (s_if (td_cmp op_notN rd_notN (pd_ix ix_any rd_ix (pd_var 2) (pd_op op_sub rd_sub (pd_var 6) pd_int)) pd_non)
        (ss_cons (s_sto (pd_if (td_cmp (op_eqD hr.units) rd_eq (pd_ix ix_any rd_ix (pd_var 0) pd_int) (pd_gstr' M.cWHOLE)) (pd_ix ix_any rd_ix (pd_var 2) (pd_op op_sub rd_sub (pd_var 6) pd_int)) pd_int) (pg_sub (pv 4) (pd_op op_sub rd_sub (pd_var 6) pd_int) set_list))
        ss_nil)
        ss_nil)
      ss_nil))
    ss_nil))
  (ss_cons (s_ret (pd_var 4))
  ss_nil)))
theorem ok_standing_of (M : Mg mg) (F : Df K mg "standing_of" sT_standing_of ["way", "log"]) (D_behind_all : Dk P w K mg base 4 "behind_all" ["way", "log"] (spD m_behind_all)) (D_need_log : Dk P w K mg base 3 "need_log" ["thing"] (spD m_need_log)) (D_need_way : Dk P w K mg base 5 "need_way" ["thing"] (spD m_need_way)) : Dk P w K mg base 6 "standing_of" ["way", "log"] (spD m_standing_of) :=
  def_dk F sc_standing_of fun cdv A outer s H E fa hr =>
  (ss_cons (s_drop (pd_callD D_need_way (hr.mono (by decide)) (da_cons (pd_var 0) da_nil)))
  (ss_cons (s_ret (pd_callD D_behind_all (hr.mono (by decide)) (da_cons (pd_var 0) (da_cons (pd_callD D_need_log (hr.mono (by decide)) (da_cons (pd_var 1) da_nil)) da_nil))))
  ss_nil))
theorem ok_is_any_chain (M : Mg mg) (F : Df K mg "is_any_chain" sT_is_any_chain ["way", "log", "value"]) (D_are_near : Dk P w K mg base 2 "are_near" ["way", "log", "row"] (spD m_are_near)) (D_is_integer : Dk P w K mg base 1 "is_integer" ["value", "least", "most"] (spD m_is_integer)) : Dk P w K mg base 3 "is_any_chain" ["way", "log", "value"] (spD m_is_any_chain) :=
  def_dk F sc_is_any_chain fun cdv A outer s H E fa hr =>
  (ss_cons (s_if (PW.pt (tw_or (td_not (td_val (pd_isi (pd_var 2) M.isinstance M.tuple boot_tuple))) (tw_or1 (td_cmp (op_neD hr.units) rd_ne (pd_callB call_len_seq rd_len M.len boot_len (da_cons (pd_var 2) da_nil)) (pd_callB call_len_seq rd_len M.len boot_len (da_cons (pd_ix ix_any rd_ix (pd_var 0) pd_int) da_nil))))))
    (ss_cons (s_ret pd_bl)
    ss_nil)
    ss_nil)
  (ss_cons (s_setLc (i := 3) rfl (own := [("number", 4), ("one", 5)]) (blkOk_by (N := ["way", "log", "value", "some", "number", "one"]) (sc := defScope sT_is_any_chain) (by decide +kernel)) (di_enum (pd_var 2) M.enumerate) (fun _ _ _ _ _ => (pg_tup rfl (pgs_cons (pg_name (i := 4) sc_is_any_chain.nd rfl (Or.inl rfl)) (pgs_cons (pg_name (i := 5) sc_is_any_chain.nd rfl (Or.inl rfl)) pgs_nil)))) (fun _ _ _ _ _ => (pts_one (td_cmp op_notN rd_notN (pd_var 5) pd_non))) (fun _ _ _ _ _ => (pd_tup (da_cons (pd_var 4) (da_cons (pd_var 5) da_nil)))) (gd_N (gds_cons (gds_cons gds_nil)) rfl) cd_T sc_is_any_chain.nd)
  (ss_cons (s_if (PW.pt (tw_or (td_cmp (op_eqD hr.units) rd_eq (pd_var 3) (pd_lst da_nil)) (tw_or1 (td_not (td_val (pd_callB (cr_all rfl) rd_all M.all boot_all (da_cons (pd_lc (own := [("number", 4), ("one", 5)]) (blkOk_by (N := ["way", "log", "value", "some", "number", "one"]) (sc := defScope sT_is_any_chain) (by decide +kernel)) (di_seq (pd_var 3)) (fun _ _ _ _ _ => (pg_tup rfl (pgs_cons (pg_name (i := 4) sc_is_any_chain.nd rfl (Or.inl rfl)) (pgs_cons (pg_name (i := 5) sc_is_any_chain.nd rfl (Or.inl rfl)) pgs_nil)))) (fun _ _ _ _ _ => pts_nil) (fun _ _ _ _ _ => (pd_callD D_is_integer (hr.mono (by decide)) (da_cons (pd_var 5) (da_cons pd_int (da_cons (pd_op op_sub rd_sub (pd_callB call_len_seq rd_len M.len boot_len (da_cons (pd_var 1) da_nil)) pd_int) da_nil))))) (gd_N (gds_cons (gds_cons gds_nil)) rfl) cd_yes sc_is_any_chain.nd) da_nil)))))))
    (ss_cons (s_ret pd_bl)
    ss_nil)
    ss_nil)
  (ss_cons (s_if (td_not (td_val (pd_callB (cr_all rfl) rd_all M.all boot_all (da_cons (pd_lc (own := [("number", 4), ("one", 5)]) (blkOk_by (N := ["way", "log", "value", "some", "number", "one"]) (sc := defScope sT_is_any_chain) (by decide +kernel)) (di_seq (pd_var 3)) (fun _ _ _ _ _ => (pg_tup rfl (pgs_cons (pg_name (i := 4) sc_is_any_chain.nd rfl (Or.inl rfl)) (pgs_cons (pg_name (i := 5) sc_is_any_chain.nd rfl (Or.inl rfl)) pgs_nil)))) (fun _ _ _ _ _ => pts_nil) (fun _ _ _ _ _ => (pd_cmp op_in_seq rd_in (pd_ix ix_any rd_ix (pd_ix ix_any rd_ix (pd_var 1) (pd_var 5)) pd_int) (pd_ix ix_any rd_ix (pd_ix ix_any rd_ix (pd_var 0) pd_int) (pd_var 4)))) (gd_N (gds_cons (gds_cons gds_nil)) rfl) cd_yes sc_is_any_chain.nd) da_nil))))
    (ss_cons (s_ret pd_bl)
    ss_nil)
    ss_nil)
  (ss_cons (s_ret (pd_callD D_are_near (hr.mono (by decide)) (da_cons (pd_var 0) (da_cons (pd_var 1) (da_cons (pd_callB cr_sorted rd_sorted M.sorted boot_sorted (da_cons (pd_lc (own := [("number", 4), ("one", 5)]) (blkOk_by (N := ["way", "log", "value", "some", "number", "one"]) (sc := defScope sT_is_any_chain) (by decide +kernel)) (di_seq (pd_var 3)) (fun _ _ _ _ _ => (pg_tup rfl (pgs_cons (pg_name (i := 4) sc_is_any_chain.nd rfl (Or.inl rfl)) (pgs_cons (pg_name (i := 5) sc_is_any_chain.nd rfl (Or.inl rfl)) pgs_nil)))) (fun _ _ _ _ _ => pts_nil) (fun _ _ _ _ _ => (pd_var 5)) (gd_N (gds_cons (gds_cons gds_nil)) rfl) cd_yes sc_is_any_chain.nd) da_nil)) da_nil)))))
  ss_nil)))))
theorem ok_longest_any (M : Mg mg) (F : Df K mg "longest_any" sT_longest_any ["way", "log"]) (D_times_in : Dk P w K mg base 1 "times_in" ["log"] (spD m_times_in)) : Dk P w K mg base 2 "longest_any" ["way", "log"] (spD m_longest_any) :=
  def_dk F sc_longest_any fun cdv A outer s H E fa hr =>
  (ss_cons (s_unp (pd_tup (da_cons (pd_callD D_times_in (hr.mono (by decide)) (da_cons (pd_var 1) da_nil)) (da_cons (pd_op op_repTA rd_repT (pd_tup (da_cons pd_non da_nil)) (pd_callB call_len_seq rd_len M.len boot_len (da_cons (pd_ix ix_any rd_ix (pd_var 0) pd_int) da_nil))) da_nil))) (pg_tup rfl (pgs_cons (pg_name (i := 2) sc_longest_any.nd rfl (Or.inr rfl)) (pgs_cons (pg_name (i := 3) sc_longest_any.nd rfl (Or.inl rfl)) pgs_nil))) (gs_N (gss_cons (gss_cons gss_nil)) rfl))
  (ss_cons (s_for PassesOwn.never (di_range1 (pd_callB call_len_seq rd_len M.len boot_len (da_cons (pd_var 1) da_nil)) M.range) (pg_name (i := 4) sc_longest_any.nd rfl (Or.inr rfl)) (gs_1 4)
    (ss_cons (s_new (i := 5) rfl (Or.inl rfl) (pe_lst da_nil) new_lst sc_longest_any.nd)
    (ss_cons (s_for PassesOwn.never (di_seq (pd_ix ix_any rd_ix (pd_var 0) pd_int)) (pg_name (i := 6) sc_longest_any.nd rfl (Or.inr rfl)) (gs_1 6)
      (ss_cons (s_setLc (i := 7) rfl (own := [("one", 8)]) (blkOk_by (N := ["way", "log", "when", "best", "end", "row", "kinds", "some", "one"]) (sc := defScope sT_longest_any) (by decide +kernel)) (di_range1 (pd_op op_addA rd_add (pd_var 4) pd_int) M.range) (fun _ _ _ _ _ => (pg_name (i := 8) sc_longest_any.nd rfl (Or.inl rfl))) (fun _ _ _ _ _ => (pts_one (PW.pt (tw_and (td_cmp op_in_seq rd_in (pd_ix ix_any rd_ix (pd_ix ix_any rd_ix (pd_var 1) (pd_var 8)) pd_int) (pd_var 6)) (tw_and1 (td_cmp op_le rd_le (pd_op op_sub rd_sub (pd_ix ix_any rd_ix (pd_var 2) (pd_var 4)) (pd_ix ix_any rd_ix (pd_var 2) (pd_var 8))) (pd_ix ix_any rd_ix (pd_var 0) pd_int))))))) (fun _ _ _ _ _ => (pd_var 8)) (gd_1 8) cd_T sc_longest_any.nd)
      (ss_cons (s_app (pv 5) (pd_if (td_cmp (op_neD hr.units) rd_ne (pd_var 7) (pd_lst da_nil)) (pd_ix ix_any rd_ix (pd_var 7) (pd_neg pd_int)) pd_non) (pe_bm PySem.F.plainAttrs_list PySem.F.slot_list_append PySem.F.type_list_append mt_append (pv 5) (pa_cons (pd_if (td_cmp (op_neD hr.units) rd_ne (pd_var 7) (pd_lst da_nil)) (pd_ix ix_any rd_ix (pd_var 7) (pd_neg pd_int)) pd_non) pa_nil)))
      ss_nil)))
    (ss_cons (s_if (td_cmp op_gt rd_gt (pd_callB call_len_seq rd_len M.len boot_len (da_cons (pd_lc (own := [("one", 8)]) (blkOk_by (N := ["way", "log", "when", "best", "end", "row", "kinds", "some", "one"]) (sc := defScope sT_longest_any) (by decide +kernel)) (di_seq (pd_var 5)) (fun _ _ _ _ _ => (pg_name (i := 8) sc_longest_any.nd rfl (Or.inl rfl))) (fun _ _ _ _ _ => (pts_one (td_cmp op_notN rd_notN (pd_var 8) pd_non))) (fun _ _ _ _ _ => (pd_var 8)) (gd_1 8) cd_T sc_longest_any.nd) da_nil)) (pd_callB call_len_seq rd_len M.len boot_len (da_cons (pd_lc (own := [("one", 8)]) (blkOk_by (N := ["way", "log", "when", "best", "end", "row", "kinds", "some", "one"]) (sc := defScope sT_longest_any) (by decide +kernel)) (di_seq (pd_var 3)) (fun _ _ _ _ _ => (pg_name (i := 8) sc_longest_any.nd rfl (Or.inl rfl))) (fun _ _ _ _ _ => (pts_one (td_cmp op_notN rd_notN (pd_var 8) pd_non))) (fun _ _ _ _ _ => (pd_var 8)) (gd_1 8) cd_T sc_longest_any.nd) da_nil)))
      (ss_cons (s_set (i := 3) rfl (Or.inl rfl) (pd_callTy call_tuple_of rd_tuple M.tuple boot_tuple (da_cons (pd_var 5) da_nil)) sc_longest_any.nd)
      ss_nil)
      ss_nil)
    ss_nil))))
  (ss_cons (s_ret (pd_var 3))
  ss_nil)))
theorem ok_law_is_of (M : Mg mg) (F : Df K mg "_law_is_of" sT_law_is_of ["_law_way_here", "_law_kind"]) : Dk P w K mg base 1 "_law_is_of" ["_law_way_here", "_law_kind"] (spD m_law_is_of) :=
  def_dk F sc_law_is_of fun cdv A outer s H E fa hr =>
  (ss_cons (s_ret (pd_lc (own := [("_law_number", 2)]) (blkOk_by (N := ["_law_way_here", "_law_kind", "_law_number"]) (sc := defScope sT_law_is_of) (by decide +kernel)) (di_range1 (pd_callB call_len_seq rd_len M.len boot_len (da_cons (pd_ix ix_any rd_ix (pd_var 0) pd_int) da_nil)) M.range) (fun _ _ _ _ _ => (pg_name (i := 2) sc_law_is_of.nd rfl (Or.inl rfl))) (fun _ _ _ _ _ => (pts_one (td_cmp op_in_seq rd_in (pd_var 1) (pd_ix ix_any rd_ix (pd_ix ix_any rd_ix (pd_var 0) pd_int) (pd_var 2))))) (fun _ _ _ _ _ => (pd_op op_addA rd_add (pd_var 2) pd_int)) (gd_1 2) cd_T sc_law_is_of.nd))
  ss_nil)
theorem ok_law_level (M : Mg mg) (F : Df K mg "_law_level" sT_law_level ["_law_way_here", "_law_log_here"]) (D_law_chains : Dk P w K mg base 3 "_law_chains" ["_law_way_here", "_law_log_here"] (spD m_law_chains)) (D_law_most_near : Dk P w K mg base 2 "_law_most_near" ["_law_way_here", "_law_log_here"] (spD m_law_most_near)) : Dk P w K mg base 4 "_law_level" ["_law_way_here", "_law_log_here"] (spD m_law_level) :=
  def_dk F sc_law_level fun cdv A outer s H E fa hr =>
  (ss_cons (s_if (td_cmp (op_eqD hr.units) rd_eq (pd_ix ix_any rd_ix (pd_var 0) pd_int) pd_str)
    (ss_cons (s_ret (pd_callD D_law_most_near (hr.mono (by decide)) (da_cons (pd_var 0) (da_cons (pd_var 1) da_nil))))
    ss_nil)
    ss_nil)
  (ss_cons (s_ret (pd_callB (cr_max rfl) rd_max1 M.max boot_max (da_cons (pd_op op_addA rd_add (pd_lst (da_cons pd_int da_nil)) (pd_lc (own := [("_law_row", 2)]) (blkOk_by (N := ["_law_way_here", "_law_log_here", "_law_row"]) (sc := defScope sT_law_level) (by decide +kernel)) (di_seq (pd_callD D_law_chains (hr.mono (by decide)) (da_cons (pd_var 0) (da_cons (pd_var 1) da_nil)))) (fun _ _ _ _ _ => (pg_name (i := 2) sc_law_level.nd rfl (Or.inl rfl))) (fun _ _ _ _ _ => pts_nil) (fun _ _ _ _ _ => (pd_callB call_len_seq rd_len M.len boot_len (da_cons (pd_var 2) da_nil))) (gd_1 2) cd_yes sc_law_level.nd)) da_nil)))
  ss_nil))
end
end Sb
end
section
set_option Elab.async false
set_option linter.all false
set_option maxRecDepth 100000
set_option maxHeartbeats 4000000
/-! The derivations (printed by gen.py). -/
namespace Sb
open PySem PySem.Spec L2
open PyProof.Rows hiding St
section
variable {P : Program} {w : World} {K : PySem.W.Frag} {mg : Str → Option Value} {base : Heap}
theorem ok_is_word (M : Mg mg) (F : Df K mg "is_word" sT_is_word ["value", "words"]) : Dk P w K mg base 1 "is_word" ["value", "words"] (spD m_is_word) :=
  def_dk F sc_is_word fun cdv A outer s H E fa hr =>
  (ss_cons (s_ret (pd_and (pd_isi (pd_var 0) M.isinstance M.str boot_str) (pd_one (pd_cmp op_in_seq rd_in (pd_var 0) (pd_var 1)))))
  ss_nil)
theorem ok_need_way (M : Mg mg) (F : Df K mg "need_way" sT_need_way ["thing"]) (D_wrong_place : Dk P w K mg base 4 "wrong_place" ["thing"] (spD m_wrong_place)) : Dk P w K mg base 5 "need_way" ["thing"] (spD m_need_way) :=
  def_dk F sc_need_way fun cdv A outer s H E fa hr =>
  (ss_cons (s_set (i := 1) rfl (Or.inl rfl) (pd_callD D_wrong_place (hr.mono (by decide)) (da_cons (pd_var 0) da_nil)) sc_need_way.nd)
  (ss_cons (s_if (td_cmp op_notN rd_notN (pd_var 1) pd_non)
    (ss_cons s_never
    ss_nil)
    ss_nil)
  (ss_cons (s_ret (pd_var 0))
  ss_nil)))
theorem ok_times_in (M : Mg mg) (F : Df K mg "times_in" sT_times_in ["log"]) : Dk P w K mg base 1 "times_in" ["log"] (spD m_times_in) :=
  def_dk F sc_times_in fun cdv A outer s H E fa hr =>
  (ss_cons (s_parN (i := 1) (j := 2) rfl rfl (by decide) (pe_lst da_nil) new_lst pd_int sc_times_in.nd)
  (ss_cons (s_for PassesOwn.never (di_seq (pd_var 0)) (pg_tup rfl (pgs_cons (pg_name (i := 3) sc_times_in.nd rfl (Or.inl rfl)) (pgs_cons (pg_name (i := 4) sc_times_in.nd rfl (Or.inl rfl)) pgs_nil))) (gs_N (gss_cons (gss_cons gss_nil)) rfl)
    (ss_cons (s_aug (i := 2) rfl (Or.inl rfl) (pd_var 3) sc_times_in.nd)
    (ss_cons (s_app (pv 1) (pd_var 2) (pe_bm PySem.F.plainAttrs_list PySem.F.slot_list_append PySem.F.type_list_append mt_append (pv 1) (pa_cons (pd_var 2) pa_nil)))
    ss_nil)))
  (ss_cons (s_ret (pd_var 1))
  ss_nil)))
theorem ok_lesser (M : Mg mg) (F : Df K mg "lesser" sT_lesser ["one", "other"]) : Dk P w K mg base 1 "lesser" ["one", "other"] (spD m_lesser) :=
  def_dk F sc_lesser fun cdv A outer s H E fa hr =>
  (ss_cons (s_if (PW.pt (tw_or (td_cmp op_isN rd_isN (pd_var 0) pd_non) (tw_or1 (td_cmp op_isN rd_isN (pd_var 1) pd_non))))
    (ss_cons (s_ret (pd_if (td_cmp op_isN rd_isN (pd_var 0) pd_non) (pd_var 1) (pd_var 0)))
    ss_nil)
    ss_nil)
  (ss_cons (s_ret (pd_callB (call_min2 rfl) rd_min2 M.min boot_min (da_cons (pd_var 0) (da_cons (pd_var 1) da_nil))))
  ss_nil))
theorem ok_level (M : Mg mg) (F : Df K mg "level" sT_level ["way", "log"]) (D_behind_all : Dk P w K mg base 4 "behind_all" ["way", "log"] (spD m_behind_all)) (D_need_log : Dk P w K mg base 3 "need_log" ["thing"] (spD m_need_log)) (D_need_way : Dk P w K mg base 5 "need_way" ["thing"] (spD m_need_way)) : Dk P w K mg base 6 "level" ["way", "log"] (spD m_level) :=
  def_dk F sc_level fun cdv A outer s H E fa hr =>
  (ss_cons (s_drop (pd_callD D_need_way (hr.mono (by decide)) (da_cons (pd_var 0) da_nil)))
  (ss_cons (s_ret (pd_ix ix_any rd_ix (pd_callD D_behind_all (hr.mono (by decide)) (da_cons (pd_var 0) (da_cons (pd_callD D_need_log (hr.mono (by decide)) (da_cons (pd_var 1) da_nil)) da_nil))) pd_int))
  ss_nil))
theorem ok_is_free (M : Mg mg) (F : Df K mg "is_free" sT_is_free ["way", "log", "row"]) (D_steps_in : Dk P w K mg base 1 "steps_in" ["way", "kind"] (spD m_steps_in)) : Dk P w K mg base 2 "is_free" ["way", "log", "row"] (spD m_is_free) :=
  def_dk F sc_is_free fun cdv A outer s H E fa hr =>
  (ss_cons (s_setLc (i := 3) rfl (own := [("number", 4)]) (blkOk_by (N := ["way", "log", "row", "inner", "number"]) (sc := defScope sT_is_free) (by decide +kernel)) (di_range2 (pd_ix ix_any rd_ix (pd_var 2) pd_int) (pd_ix ix_any rd_ix (pd_var 2) (pd_neg pd_int)) M.range) (fun _ _ _ _ _ => (pg_name (i := 4) sc_is_free.nd rfl (Or.inl rfl))) (fun _ _ _ _ _ => (pts_one (td_cmp op_notIn_seq rd_in (pd_var 4) (pd_var 2)))) (fun _ _ _ _ _ => (pd_var 4)) (gd_1 4) cd_T sc_is_free.nd)
  (ss_cons (s_if (td_cmp (op_eqD hr.units) rd_eq (pd_ix ix_any rd_ix (pd_var 0) pd_int) (pd_gstr' M.cSTRICT))
    (ss_cons (s_ret (pd_cmp (op_eqD hr.units) rd_eq (pd_var 3) (pd_lst da_nil)))
    ss_nil)
    ss_nil)
  (ss_cons (s_ret (pd_or (pd_cmp (op_neD hr.units) rd_ne (pd_ix ix_any rd_ix (pd_var 0) pd_int) (pd_gstr' M.cAMONG)) (pd_one (pd_not (pd_callB (cr_any rfl) rd_any M.any boot_any (da_cons (pd_lc (own := [("number", 4)]) (blkOk_by (N := ["way", "log", "row", "inner", "number"]) (sc := defScope sT_is_free) (by decide +kernel)) (di_seq (pd_var 3)) (fun _ _ _ _ _ => (pg_name (i := 4) sc_is_free.nd rfl (Or.inl rfl))) (fun _ _ _ _ _ => pts_nil) (fun _ _ _ _ _ => (pd_cmp (op_neD hr.units) rd_ne (pd_callD D_steps_in (hr.mono (by decide)) (da_cons (pd_var 0) (da_cons (pd_ix ix_any rd_ix (pd_ix ix_any rd_ix (pd_var 1) (pd_var 4)) pd_int) da_nil))) (pd_lst da_nil))) (gd_1 4) cd_yes sc_is_free.nd) da_nil))))))
  ss_nil)))
theorem ok_one_longer (M : Mg mg) (F : Df K mg "one_longer" sT_one_longer ["way", "log", "rows"]) (D_is_chain_in : Dk P w K mg base 4 "is_chain_in" ["way", "log", "value"] (spD m_is_chain_in)) : Dk P w K mg base 5 "one_longer" ["way", "log", "rows"] (spD m_one_longer) :=
  def_dk F sc_one_longer fun cdv A outer s H E fa hr =>
  (ss_cons (s_new (i := 3) rfl (Or.inl rfl) pe_dnewK new_dict sc_one_longer.nd)
  (ss_cons (s_for PassesOwn.never (di_seq (pd_var 2)) (pg_name (i := 4) sc_one_longer.nd rfl (Or.inl rfl)) (gs_1 4)
    (ss_cons (s_for PassesOwn.never (di_range2 (pd_op op_addA rd_add (pd_ix ix_any rd_ix (pd_var 4) (pd_neg pd_int)) pd_int) (pd_callB call_len_seq rd_len M.len boot_len (da_cons (pd_var 1) da_nil)) M.range) (pg_name (i := 5) sc_one_longer.nd rfl (Or.inl rfl)) (gs_1 5)
      (ss_cons (s_set (i := 6) rfl (Or.inl rfl) (pd_tup (da_star (pd_var 4) (da_cons (pd_var 5) da_nil))) sc_one_longer.nd)
      (ss_cons (s_if (PW.pt (tw_and (td_val (pd_callD D_is_chain_in (hr.mono (by decide)) (da_cons (pd_var 0) (da_cons (pd_var 1) (da_cons (pd_var 6) da_nil))))) (tw_and1 (PW.pt (tw_or (td_dni (pd_var 5) (pd_var 3) (hu_of hr)) (tw_or1 (td_cmp op_lt rd_lt (pd_ix ix_any rd_ix (pd_dget (pd_var 3) (pd_var 5) (hu_of hr)) pd_int) (pd_ix ix_any rd_ix (pd_var 4) pd_int))))))))
        (ss_cons (s_dput (pv 3) (pd_var 5) (pd_var 6) (hu_of hr))
        ss_nil)
        ss_nil)
      ss_nil)))
    ss_nil))
  (ss_cons (s_ret (pd_listVals (pd_var 3) M.list))
  ss_nil)))
theorem ok_law_is_good (M : Mg mg) (F : Df K mg "_law_is_good" sT_law_is_good ["_law_way_here", "_law_log_here", "_law_row"]) (D_law_is_of : Dk P w K mg base 1 "_law_is_of" ["_law_way_here", "_law_kind"] (spD m_law_is_of)) (D_law_when : Dk P w K mg base 1 "_law_when" ["_law_log_here"] (spD m_law_when)) : Dk P w K mg base 2 "_law_is_good" ["_law_way_here", "_law_log_here", "_law_row"] (spD m_law_is_good) :=
  def_dk F sc_law_is_good fun cdv A outer s H E fa hr =>
  (ss_cons (s_set (i := 3) rfl (Or.inr rfl) (pd_callD D_law_when (hr.mono (by decide)) (da_cons (pd_var 1) da_nil)) sc_law_is_good.nd)
  (ss_cons (s_setLc (i := 4) rfl (own := [("_law_spot", 8), ("_law_number", 9)]) (blkOk_by (N := ["_law_way_here", "_law_log_here", "_law_row", "_law_when_here", "_law_wrong", "_law_gaps", "_law_inner", "_law_early", "_law_spot", "_law_number", "_law_one", "_law_two", "_law_gap", "_law_kind"]) (sc := defScope sT_law_is_good) (by decide +kernel)) (di_enum (pd_var 2) M.enumerate) (fun _ _ _ _ _ => (pg_tup rfl (pgs_cons (pg_name (i := 8) sc_law_is_good.nd rfl (Or.inl rfl)) (pgs_cons (pg_name (i := 9) sc_law_is_good.nd rfl (Or.inl rfl)) pgs_nil)))) (fun _ _ _ _ _ => (pts_one (td_cmp op_notIn_seq rd_in (pd_ix ix_any rd_ix (pd_ix ix_any rd_ix (pd_var 1) (pd_var 9)) pd_int) (pd_ix ix_any rd_ix (pd_ix ix_any rd_ix (pd_var 0) pd_int) (pd_var 8))))) (fun _ _ _ _ _ => pd_int) (gd_N (gds_cons (gds_cons gds_nil)) rfl) cd_T sc_law_is_good.nd)
  (ss_cons (s_setLc (i := 5) rfl (own := [("_law_one", 10), ("_law_two", 11)]) (blkOk_by (N := ["_law_way_here", "_law_log_here", "_law_row", "_law_when_here", "_law_wrong", "_law_gaps", "_law_inner", "_law_early", "_law_spot", "_law_number", "_law_one", "_law_two", "_law_gap", "_law_kind"]) (sc := defScope sT_law_is_good) (by decide +kernel)) (di_zip (pd_var 2) (pd_slice (pd_var 2) (do_some pd_int) do_none) M.zip) (fun _ _ _ _ _ => (pg_tup rfl (pgs_cons (pg_name (i := 10) sc_law_is_good.nd rfl (Or.inl rfl)) (pgs_cons (pg_name (i := 11) sc_law_is_good.nd rfl (Or.inl rfl)) pgs_nil)))) (fun _ _ _ _ _ => pts_nil) (fun _ _ _ _ _ => (pd_op op_sub rd_sub (pd_ix ix_any rd_ix (pd_var 3) (pd_var 11)) (pd_ix ix_any rd_ix (pd_var 3) (pd_var 10)))) (gd_N (gds_cons (gds_cons gds_nil)) rfl) cd_yes sc_law_is_good.nd)
  (ss_cons (s_if (td_cmp (op_eqD hr.units) rd_eq (pd_ix ix_any rd_ix (pd_var 0) pd_int) pd_str)
    (ss_cons (s_set (i := 5) rfl (Or.inl rfl) (pd_lst (da_cons (pd_op op_sub rd_sub (pd_ix ix_any rd_ix (pd_var 3) (pd_ix ix_any rd_ix (pd_var 2) (pd_neg pd_int))) (pd_ix ix_any rd_ix (pd_var 3) (pd_ix ix_any rd_ix (pd_var 2) pd_int))) da_nil)) sc_law_is_good.nd)
    ss_nil)
    ss_nil)
  (ss_cons (s_if (PW.pt (tw_or (td_cmp (op_neD hr.units) rd_ne (pd_var 4) (pd_lst da_nil)) (tw_or1 (td_cmp op_gt rd_gt (pd_callB (cr_max rfl) rd_max1 M.max boot_max (da_cons (pd_op op_addA rd_add (pd_lst (da_cons pd_int da_nil)) (pd_var 5)) da_nil)) (pd_ix ix_any rd_ix (pd_var 0) pd_int)))))
    (ss_cons (s_ret pd_bl)
    ss_nil)
    ss_nil)
  (ss_cons (s_setLc (i := 6) rfl (own := [("_law_number", 9)]) (blkOk_by (N := ["_law_way_here", "_law_log_here", "_law_row", "_law_when_here", "_law_wrong", "_law_gaps", "_law_inner", "_law_early", "_law_spot", "_law_number", "_law_one", "_law_two", "_law_gap", "_law_kind"]) (sc := defScope sT_law_is_good) (by decide +kernel)) (di_range2 (pd_ix ix_any rd_ix (pd_var 2) pd_int) (pd_ix ix_any rd_ix (pd_var 2) (pd_neg pd_int)) M.range) (fun _ _ _ _ _ => (pg_name (i := 9) sc_law_is_good.nd rfl (Or.inl rfl))) (fun _ _ _ _ _ => (pts_one (td_cmp op_notIn_seq rd_in (pd_var 9) (pd_var 2)))) (fun _ _ _ _ _ => (pd_var 9)) (gd_1 9) cd_T sc_law_is_good.nd)
  (ss_cons (s_if (td_cmp (op_eqD hr.units) rd_eq (pd_ix ix_any rd_ix (pd_var 0) pd_int) pd_str)
    (ss_cons (s_setLc (i := 6) rfl (own := [("_law_number", 9)]) (blkOk_by (N := ["_law_way_here", "_law_log_here", "_law_row", "_law_when_here", "_law_wrong", "_law_gaps", "_law_inner", "_law_early", "_law_spot", "_law_number", "_law_one", "_law_two", "_law_gap", "_law_kind"]) (sc := defScope sT_law_is_good) (by decide +kernel)) (di_seq (pd_var 6)) (fun _ _ _ _ _ => (pg_name (i := 9) sc_law_is_good.nd rfl (Or.inl rfl))) (fun _ _ _ _ _ => (pts_one (td_cmp (op_neD hr.units) rd_ne (pd_callD D_law_is_of (hr.mono (by decide)) (da_cons (pd_var 0) (da_cons (pd_ix ix_any rd_ix (pd_ix ix_any rd_ix (pd_var 1) (pd_var 9)) pd_int) da_nil))) (pd_lst da_nil)))) (fun _ _ _ _ _ => (pd_var 9)) (gd_1 9) cd_T sc_law_is_good.nd)
    ss_nil)
    ss_nil)
  (ss_cons (s_if (PW.pt (tw_and (td_cmp op_in_seq rd_in (pd_ix ix_any rd_ix (pd_var 0) pd_int) (pd_tup (da_cons pd_str (da_cons pd_str da_nil)))) (tw_and1 (td_cmp (op_neD hr.units) rd_ne (pd_var 6) (pd_lst da_nil)))))
    (ss_cons (s_ret pd_bl)
    ss_nil)
    ss_nil)
  (ss_cons (s_setLc (i := 7) rfl (own := [("_law_gap", 12), ("_law_kind", 13)]) (blkOk_by (N := ["_law_way_here", "_law_log_here", "_law_row", "_law_when_here", "_law_wrong", "_law_gaps", "_law_inner", "_law_early", "_law_spot", "_law_number", "_law_one", "_law_two", "_law_gap", "_law_kind"]) (sc := defScope sT_law_is_good) (by decide +kernel)) (di_seq (pd_slice (pd_var 1) do_none (do_some (pd_ix ix_any rd_ix (pd_var 2) pd_int)))) (fun _ _ _ _ _ => (pg_tup rfl (pgs_cons (pg_name (i := 12) sc_law_is_good.nd rfl (Or.inl rfl)) (pgs_cons (pg_name (i := 13) sc_law_is_good.nd rfl (Or.inl rfl)) pgs_nil)))) (fun _ _ _ _ _ => (pts_one (td_cmp op_in_seq rd_in (pd_var 13) (pd_ix ix_any rd_ix (pd_ix ix_any rd_ix (pd_var 0) pd_int) pd_int)))) (fun _ _ _ _ _ => pd_int) (gd_N (gds_cons (gds_cons gds_nil)) rfl) cd_T sc_law_is_good.nd)
  (ss_cons (s_ret (pd_or (pd_cmp (op_eqD hr.units) rd_eq (pd_ix ix_any rd_ix (pd_var 0) pd_int) pd_str) (pd_one (pd_cmp (op_eqD hr.units) rd_eq (pd_var 7) (pd_lst da_nil)))))
  ss_nil))))))))))
theorem ok_law_is_any (M : Mg mg) (F : Df K mg "_law_is_any" sT_law_is_any ["_law_way_here", "_law_log_here", "_law_row"]) (D_law_when : Dk P w K mg base 1 "_law_when" ["_law_log_here"] (spD m_law_when)) : Dk P w K mg base 2 "_law_is_any" ["_law_way_here", "_law_log_here", "_law_row"] (spD m_law_is_any) :=
  def_dk F sc_law_is_any fun cdv A outer s H E fa hr =>
  (ss_cons (s_setLc (i := 3) rfl (own := [("_law_spot", 7), ("_law_number", 8)]) (blkOk_by (N := ["_law_way_here", "_law_log_here", "_law_row", "_law_some_here", "_law_when_here", "_law_numbers", "_law_wrong", "_law_spot", "_law_number"]) (sc := defScope sT_law_is_any) (by decide +kernel)) (di_enum (pd_var 2) M.enumerate) (fun _ _ _ _ _ => (pg_tup rfl (pgs_cons (pg_name (i := 7) sc_law_is_any.nd rfl (Or.inl rfl)) (pgs_cons (pg_name (i := 8) sc_law_is_any.nd rfl (Or.inl rfl)) pgs_nil)))) (fun _ _ _ _ _ => (pts_one (td_cmp op_notN rd_notN (pd_var 8) pd_non))) (fun _ _ _ _ _ => (pd_tup (da_cons (pd_var 7) (da_cons (pd_var 8) da_nil)))) (gd_N (gds_cons (gds_cons gds_nil)) rfl) cd_T sc_law_is_any.nd)
  (ss_cons (s_par (i := 4) (j := 5) rfl rfl (by decide) (pd_callD D_law_when (hr.mono (by decide)) (da_cons (pd_var 1) da_nil)) (pd_lc (own := [("_law_spot", 7), ("_law_number", 8)]) (blkOk_by (N := ["_law_way_here", "_law_log_here", "_law_row", "_law_some_here", "_law_when_here", "_law_numbers", "_law_wrong", "_law_spot", "_law_number"]) (sc := defScope sT_law_is_any) (by decide +kernel)) (di_seq (pd_var 3)) (fun _ _ _ _ _ => (pg_tup rfl (pgs_cons (pg_name (i := 7) sc_law_is_any.nd rfl (Or.inl rfl)) (pgs_cons (pg_name (i := 8) sc_law_is_any.nd rfl (Or.inl rfl)) pgs_nil)))) (fun _ _ _ _ _ => pts_nil) (fun _ _ _ _ _ => (pd_var 8)) (gd_N (gds_cons (gds_cons gds_nil)) rfl) cd_yes sc_law_is_any.nd) sc_law_is_any.nd)
  (ss_cons (s_setLc (i := 6) rfl (own := [("_law_spot", 7), ("_law_number", 8)]) (blkOk_by (N := ["_law_way_here", "_law_log_here", "_law_row", "_law_some_here", "_law_when_here", "_law_numbers", "_law_wrong", "_law_spot", "_law_number"]) (sc := defScope sT_law_is_any) (by decide +kernel)) (di_seq (pd_var 3)) (fun _ _ _ _ _ => (pg_tup rfl (pgs_cons (pg_name (i := 7) sc_law_is_any.nd rfl (Or.inl rfl)) (pgs_cons (pg_name (i := 8) sc_law_is_any.nd rfl (Or.inl rfl)) pgs_nil)))) (fun _ _ _ _ _ => (pts_one (td_cmp op_notIn_seq rd_in (pd_ix ix_any rd_ix (pd_ix ix_any rd_ix (pd_var 1) (pd_var 8)) pd_int) (pd_ix ix_any rd_ix (pd_ix ix_any rd_ix (pd_var 0) pd_int) (pd_var 7))))) (fun _ _ _ _ _ => pd_int) (gd_N (gds_cons (gds_cons gds_nil)) rfl) cd_T sc_law_is_any.nd)
  (ss_cons (s_if (PW.pt (tw_or (td_cmp (op_eqD hr.units) rd_eq (pd_var 3) (pd_lst da_nil)) (tw_or1 (td_cmp (op_neD hr.units) rd_ne (pd_var 6) (pd_lst da_nil)))))
    (ss_cons (s_ret pd_bl)
    ss_nil)
    ss_nil)
  (ss_cons (s_ret (pd_and (pd_cmp (op_eqD hr.units) rd_eq (pd_callB call_len_seq rd_len M.len boot_len (da_cons (pd_var 2) da_nil)) (pd_callB call_len_seq rd_len M.len boot_len (da_cons (pd_ix ix_any rd_ix (pd_var 0) pd_int) da_nil))) (pd_one (pd_cmp op_le rd_le (pd_op op_sub rd_sub (pd_ix ix_any rd_ix (pd_var 4) (pd_callB (cr_max rfl) rd_max1 M.max boot_max (da_cons (pd_var 5) da_nil))) (pd_ix ix_any rd_ix (pd_var 4) (pd_callB (cr_min rfl) rd_min1 M.min boot_min (da_cons (pd_var 5) da_nil)))) (pd_ix ix_any rd_ix (pd_var 0) pd_int)))))
  ss_nil)))))
end
end Sb
end
section
set_option Elab.async false
set_option linter.all false
set_option maxRecDepth 100000
set_option maxHeartbeats 4000000
/-! The derivations (printed by gen.py). -/
namespace Sb
open PySem PySem.Spec L2
open PyProof.Rows hiding St
section
variable {P : Program} {w : World} {K : PySem.W.Frag} {mg : Str → Option Value} {base : Heap}
theorem ok_are_kinds (M : Mg mg) (F : Df K mg "are_kinds" sT_are_kinds ["value"]) (D_is_integer : Dk P w K mg base 1 "is_integer" ["value", "least", "most"] (spD m_is_integer)) : Dk P w K mg base 2 "are_kinds" ["value"] (spD m_are_kinds) :=
  def_dk F sc_are_kinds fun cdv A outer s H E fa hr =>
  (ss_cons (s_if (PW.pt (tw_or (td_not (td_val (pd_isi (pd_var 0) M.isinstance M.tuple boot_tuple))) (tw_or (td_cmp (op_eqD hr.units) rd_eq (pd_var 0) (pd_tup da_nil)) (tw_or1 (td_not (td_val (pd_callB (cr_all rfl) rd_all M.all boot_all (da_cons (pd_lc (own := [("one", 1)]) (blkOk_by (N := ["value", "one", "other"]) (sc := defScope sT_are_kinds) (by decide +kernel)) (di_seq (pd_var 0)) (fun _ _ _ _ _ => (pg_name (i := 1) sc_are_kinds.nd rfl (Or.inl rfl))) (fun _ _ _ _ _ => pts_nil) (fun _ _ _ _ _ => (pd_callD D_is_integer (hr.mono (by decide)) (da_cons (pd_var 1) (da_cons pd_int (da_cons (pd_gint' M.cMOST_KIND) da_nil))))) (gd_1 1) cd_yes sc_are_kinds.nd) da_nil))))))))
    (ss_cons (s_ret pd_bl)
    ss_nil)
    ss_nil)
  (ss_cons (s_ret (pd_callB (cr_all rfl) rd_all M.all boot_all (da_cons (pd_lc (own := [("one", 1), ("other", 2)]) (blkOk_by (N := ["value", "one", "other"]) (sc := defScope sT_are_kinds) (by decide +kernel)) (di_zip (pd_var 0) (pd_slice (pd_var 0) (do_some pd_int) do_none) M.zip) (fun _ _ _ _ _ => (pg_tup rfl (pgs_cons (pg_name (i := 1) sc_are_kinds.nd rfl (Or.inl rfl)) (pgs_cons (pg_name (i := 2) sc_are_kinds.nd rfl (Or.inl rfl)) pgs_nil)))) (fun _ _ _ _ _ => pts_nil) (fun _ _ _ _ _ => (pd_cmp op_lt rd_lt (pd_var 1) (pd_var 2))) (gd_N (gds_cons (gds_cons gds_nil)) rfl) cd_yes sc_are_kinds.nd) da_nil)))
  ss_nil))
theorem ok_steps_in (M : Mg mg) (F : Df K mg "steps_in" sT_steps_in ["way", "kind"]) : Dk P w K mg base 1 "steps_in" ["way", "kind"] (spD m_steps_in) :=
  def_dk F sc_steps_in fun cdv A outer s H E fa hr =>
  (ss_cons (s_ret (pd_lc (own := [("number", 2), ("kinds", 3)]) (blkOk_by (N := ["way", "kind", "number", "kinds"]) (sc := defScope sT_steps_in) (by decide +kernel)) (di_enum (pd_ix ix_any rd_ix (pd_var 0) pd_int) M.enumerate) (fun _ _ _ _ _ => (pg_tup rfl (pgs_cons (pg_name (i := 2) sc_steps_in.nd rfl (Or.inl rfl)) (pgs_cons (pg_name (i := 3) sc_steps_in.nd rfl (Or.inl rfl)) pgs_nil)))) (fun _ _ _ _ _ => (pts_one (td_cmp op_in_seq rd_in (pd_var 1) (pd_var 3)))) (fun _ _ _ _ _ => (pd_op op_addA rd_add (pd_var 2) pd_int)) (gd_N (gds_cons (gds_cons gds_nil)) rfl) cd_T sc_steps_in.nd))
  ss_nil)
theorem ok_first_in (M : Mg mg) (F : Df K mg "first_in" sT_first_in ["way"]) : Dk P w K mg base 1 "first_in" ["way"] (spD m_first_in) :=
  def_dk F sc_first_in fun cdv A outer s H E fa hr =>
  (ss_cons (s_ret (pd_tup (da_cons pd_int (da_cons pd_bl (da_cons (pd_op op_repTA rd_repT (pd_tup (da_cons pd_non da_nil)) (pd_callB call_len_seq rd_len M.len boot_len (da_cons (pd_ix ix_any rd_ix (pd_var 0) pd_int) da_nil))) da_nil)))))
  ss_nil)
theorem ok_behind_in (M : Mg mg) (F : Df K mg "behind_in" sT_behind_in ["way", "standing", "event"]) (D_lesser : Dk P w K mg base 1 "lesser" ["one", "other"] (spD m_lesser)) (D_came : Dk P w K mg base 2 "came" ["way", "begun", "ages", "kind"] (spD m_came)) (D_steps_in : Dk P w K mg base 1 "steps_in" ["way", "kind"] (spD m_steps_in)) (D_grown : Dk P w K mg base 1 "grown" ["ages", "gap", "window"] (spD m_grown)) : Dk P w K mg base 3 "behind_in" ["way", "standing", "event"] (spD m_behind_in) :=
  def_dk F sc_behind_in fun cdv A outer s H E fa hr =>
  (ss_cons (s_unp (pd_var 1) (pg_tup rfl (pgs_cons (pg_name (i := 3) sc_behind_in.nd rfl (Or.inl rfl)) (pgs_cons (pg_name (i := 4) sc_behind_in.nd rfl (Or.inl rfl)) (pgs_cons (pg_name (i := 5) sc_behind_in.nd rfl (Or.inl rfl)) pgs_nil)))) (gs_N (gss_cons (gss_cons (gss_cons gss_nil))) rfl))
  (ss_cons (s_unp (pd_var 2) (pg_tup rfl (pgs_cons (pg_name (i := 6) sc_behind_in.nd rfl (Or.inl rfl)) (pgs_cons (pg_name (i := 7) sc_behind_in.nd rfl (Or.inl rfl)) pgs_nil))) (gs_N (gss_cons (gss_cons gss_nil)) rfl))
  (ss_cons (s_unp (pd_tup (da_cons (pd_callD D_grown (hr.mono (by decide)) (da_cons (pd_var 5) (da_cons (pd_var 6) (da_cons (pd_ix ix_any rd_ix (pd_var 0) pd_int) da_nil)))) (da_cons (pd_callD D_steps_in (hr.mono (by decide)) (da_cons (pd_var 0) (da_cons (pd_var 7) da_nil))) da_nil))) (pg_tup rfl (pgs_cons (pg_name (i := 5) sc_behind_in.nd rfl (Or.inl rfl)) (pgs_cons (pg_name (i := 8) sc_behind_in.nd rfl (Or.inr rfl)) pgs_nil))) (gs_N (gss_cons (gss_cons gss_nil)) rfl))
  (ss_cons (s_if (td_cmp (op_eqD hr.units) rd_eq (pd_ix ix_any rd_ix (pd_var 0) pd_int) (pd_gstr' M.cANY))
    (ss_cons (s_set (i := 5) rfl (Or.inl rfl) (pd_callTy call_tuple_of rd_tuple M.tuple boot_tuple (da_cons (pd_lc (own := [("number", 10), ("age", 11)]) (blkOk_by (N := ["way", "standing", "event", "best", "begun", "ages", "gap", "kind", "steps", "fresh", "number", "age", "other"]) (sc := defScope sT_behind_in) (by decide +kernel)) (di_enum (pd_var 5) M.enumerate) (fun _ _ _ _ _ => (pg_tup rfl (pgs_cons (pg_name (i := 10) sc_behind_in.nd rfl (Or.inl rfl)) (pgs_cons (pg_name (i := 11) sc_behind_in.nd rfl (Or.inl rfl)) pgs_nil)))) (fun _ _ _ _ _ => pts_nil) (fun _ _ _ _ _ => (pd_if (td_cmp op_in_seq rd_in (pd_op op_addA rd_add (pd_var 10) pd_int) (pd_var 8)) pd_int (pd_var 11))) (gd_N (gds_cons (gds_cons gds_nil)) rfl) cd_yes sc_behind_in.nd) da_nil)) sc_behind_in.nd)
    (ss_cons (s_ret (pd_tup (da_cons (pd_callB (call_max2 rfl) rd_max2 M.max boot_max (da_cons (pd_var 3) (da_cons (pd_callB call_len_seq rd_len M.len boot_len (da_cons (pd_lc (own := [("age", 11)]) (blkOk_by (N := ["way", "standing", "event", "best", "begun", "ages", "gap", "kind", "steps", "fresh", "number", "age", "other"]) (sc := defScope sT_behind_in) (by decide +kernel)) (di_seq (pd_var 5)) (fun _ _ _ _ _ => (pg_name (i := 11) sc_behind_in.nd rfl (Or.inl rfl))) (fun _ _ _ _ _ => (pts_one (td_cmp op_notN rd_notN (pd_var 11) pd_non))) (fun _ _ _ _ _ => (pd_var 11)) (gd_1 11) cd_T sc_behind_in.nd) da_nil)) da_nil))) (da_cons (pd_or (pd_var 4) (pd_one (pd_cmp op_in_seq rd_in pd_int (pd_var 8)))) (da_cons (pd_var 5) da_nil)))))
    ss_nil))
    ss_nil)
  (ss_cons (s_set (i := 9) rfl (Or.inl rfl) (pd_callD D_came (hr.mono (by decide)) (da_cons (pd_var 0) (da_cons (pd_var 4) (da_cons (pd_var 5) (da_cons (pd_var 7) da_nil))))) sc_behind_in.nd)
  (ss_cons (s_set (i := 3) rfl (Or.inl rfl) (pd_callB (cr_max rfl) rd_max1 M.max boot_max (da_cons (pd_op op_addA rd_add (pd_lst (da_cons (pd_var 3) da_nil)) (pd_lc (own := [("number", 10), ("age", 11)]) (blkOk_by (N := ["way", "standing", "event", "best", "begun", "ages", "gap", "kind", "steps", "fresh", "number", "age", "other"]) (sc := defScope sT_behind_in) (by decide +kernel)) (di_enum (pd_var 9) M.enumerate) (fun _ _ _ _ _ => (pg_tup rfl (pgs_cons (pg_name (i := 10) sc_behind_in.nd rfl (Or.inl rfl)) (pgs_cons (pg_name (i := 11) sc_behind_in.nd rfl (Or.inl rfl)) pgs_nil)))) (fun _ _ _ _ _ => (pts_one (td_cmp op_notN rd_notN (pd_var 11) pd_non))) (fun _ _ _ _ _ => (pd_op op_addA rd_add (pd_var 10) pd_int)) (gd_N (gds_cons (gds_cons gds_nil)) rfl) cd_T sc_behind_in.nd)) da_nil)) sc_behind_in.nd)
  (ss_cons (s_if (td_cmp (op_eqD hr.units) rd_eq (pd_ix ix_any rd_ix (pd_var 0) pd_int) (pd_gstr' M.cLOOSE))
    (ss_cons (s_set (i := 5) rfl (Or.inl rfl) (pd_callTy call_tuple_of rd_tuple M.tuple boot_tuple (da_cons (pd_lc (own := [("age", 11), ("other", 12)]) (blkOk_by (N := ["way", "standing", "event", "best", "begun", "ages", "gap", "kind", "steps", "fresh", "number", "age", "other"]) (sc := defScope sT_behind_in) (by decide +kernel)) (di_zip (pd_var 5) (pd_var 9) M.zip) (fun _ _ _ _ _ => (pg_tup rfl (pgs_cons (pg_name (i := 11) sc_behind_in.nd rfl (Or.inl rfl)) (pgs_cons (pg_name (i := 12) sc_behind_in.nd rfl (Or.inl rfl)) pgs_nil)))) (fun _ _ _ _ _ => pts_nil) (fun _ _ _ _ _ => (pd_callD D_lesser (hr.mono (by decide)) (da_cons (pd_var 11) (da_cons (pd_var 12) da_nil)))) (gd_N (gds_cons (gds_cons gds_nil)) rfl) cd_yes sc_behind_in.nd) da_nil)) sc_behind_in.nd)
    ss_nil)
    (ss_cons (s_if (PW.pt (tw_or (td_cmp (op_neD hr.units) rd_ne (pd_ix ix_any rd_ix (pd_var 0) pd_int) (pd_gstr' M.cAMONG)) (tw_or1 (td_cmp (op_neD hr.units) rd_ne (pd_var 8) (pd_lst da_nil)))))
      (ss_cons (s_set (i := 5) rfl (Or.inl rfl) (pd_callTy call_tuple_of rd_tuple M.tuple boot_tuple (da_cons (pd_var 9) da_nil)) sc_behind_in.nd)
      ss_nil)
      ss_nil)
    ss_nil))
  (ss_cons (s_ret (pd_tup (da_cons (pd_var 3) (da_cons (pd_or (pd_var 4) (pd_one (pd_cmp op_in_seq rd_in pd_int (pd_var 8)))) (da_cons (pd_var 5) da_nil)))))
  ss_nil))))))))
theorem ok_is_row (M : Mg mg) (F : Df K mg "is_row" sT_is_row ["log", "value"]) (D_is_integer : Dk P w K mg base 1 "is_integer" ["value", "least", "most"] (spD m_is_integer)) : Dk P w K mg base 2 "is_row" ["log", "value"] (spD m_is_row) :=
  def_dk F sc_is_row fun cdv A outer s H E fa hr =>
  (ss_cons (s_if (PW.pt (tw_or (td_not (td_val (pd_isi (pd_var 1) M.isinstance M.tuple boot_tuple))) (tw_or (td_cmp (op_eqD hr.units) rd_eq (pd_var 1) (pd_tup da_nil)) (tw_or1 (td_not (td_val (pd_callB (cr_all rfl) rd_all M.all boot_all (da_cons (pd_lc (own := [("one", 2)]) (blkOk_by (N := ["log", "value", "one", "other"]) (sc := defScope sT_is_row) (by decide +kernel)) (di_seq (pd_var 1)) (fun _ _ _ _ _ => (pg_name (i := 2) sc_is_row.nd rfl (Or.inl rfl))) (fun _ _ _ _ _ => pts_nil) (fun _ _ _ _ _ => (pd_callD D_is_integer (hr.mono (by decide)) (da_cons (pd_var 2) (da_cons pd_int (da_cons (pd_op op_sub rd_sub (pd_callB call_len_seq rd_len M.len boot_len (da_cons (pd_var 0) da_nil)) pd_int) da_nil))))) (gd_1 2) cd_yes sc_is_row.nd) da_nil))))))))
    (ss_cons (s_ret pd_bl)
    ss_nil)
    ss_nil)
  (ss_cons (s_ret (pd_callB (cr_all rfl) rd_all M.all boot_all (da_cons (pd_lc (own := [("one", 2), ("other", 3)]) (blkOk_by (N := ["log", "value", "one", "other"]) (sc := defScope sT_is_row) (by decide +kernel)) (di_zip (pd_var 1) (pd_slice (pd_var 1) (do_some pd_int) do_none) M.zip) (fun _ _ _ _ _ => (pg_tup rfl (pgs_cons (pg_name (i := 2) sc_is_row.nd rfl (Or.inl rfl)) (pgs_cons (pg_name (i := 3) sc_is_row.nd rfl (Or.inl rfl)) pgs_nil)))) (fun _ _ _ _ _ => pts_nil) (fun _ _ _ _ _ => (pd_cmp op_lt rd_lt (pd_var 2) (pd_var 3))) (gd_N (gds_cons (gds_cons gds_nil)) rfl) cd_yes sc_is_row.nd) da_nil)))
  ss_nil))
theorem ok_is_chain_in (M : Mg mg) (F : Df K mg "is_chain_in" sT_is_chain_in ["way", "log", "value"]) (D_steps_in : Dk P w K mg base 1 "steps_in" ["way", "kind"] (spD m_steps_in)) (D_is_free : Dk P w K mg base 2 "is_free" ["way", "log", "row"] (spD m_is_free)) (D_are_near : Dk P w K mg base 2 "are_near" ["way", "log", "row"] (spD m_are_near)) (D_is_row : Dk P w K mg base 2 "is_row" ["log", "value"] (spD m_is_row)) (D_is_any_chain : Dk P w K mg base 3 "is_any_chain" ["way", "log", "value"] (spD m_is_any_chain)) : Dk P w K mg base 4 "is_chain_in" ["way", "log", "value"] (spD m_is_chain_in) :=
  def_dk F sc_is_chain_in fun cdv A outer s H E fa hr =>
  (ss_cons (s_if (td_cmp (op_eqD hr.units) rd_eq (pd_ix ix_any rd_ix (pd_var 0) pd_int) (pd_gstr' M.cANY))
    (ss_cons (s_ret (pd_callD D_is_any_chain (hr.mono (by decide)) (da_cons (pd_var 0) (da_cons (pd_var 1) (da_cons (pd_var 2) da_nil)))))
    ss_nil)
    ss_nil)
  (ss_cons (s_if (PW.pt (tw_or (td_not (td_val (pd_callD D_is_row (hr.mono (by decide)) (da_cons (pd_var 1) (da_cons (pd_var 2) da_nil))))) (tw_or1 (td_cmp op_gt rd_gt (pd_callB call_len_seq rd_len M.len boot_len (da_cons (pd_var 2) da_nil)) (pd_callB call_len_seq rd_len M.len boot_len (da_cons (pd_ix ix_any rd_ix (pd_var 0) pd_int) da_nil))))))
    (ss_cons (s_ret pd_bl)
    ss_nil)
    ss_nil)
  (ss_cons (s_if (td_not (td_val (pd_callB (cr_all rfl) rd_all M.all boot_all (da_cons (pd_lc (own := [("number", 3), ("kinds", 4)]) (blkOk_by (N := ["way", "log", "value", "number", "kinds", "gap", "kind"]) (sc := defScope sT_is_chain_in) (by decide +kernel)) (di_zip (pd_var 2) (pd_ix ix_any rd_ix (pd_var 0) pd_int) M.zip) (fun _ _ _ _ _ => (pg_tup rfl (pgs_cons (pg_name (i := 3) sc_is_chain_in.nd rfl (Or.inl rfl)) (pgs_cons (pg_name (i := 4) sc_is_chain_in.nd rfl (Or.inl rfl)) pgs_nil)))) (fun _ _ _ _ _ => pts_nil) (fun _ _ _ _ _ => (pd_cmp op_in_seq rd_in (pd_ix ix_any rd_ix (pd_ix ix_any rd_ix (pd_var 1) (pd_var 3)) pd_int) (pd_var 4))) (gd_N (gds_cons (gds_cons gds_nil)) rfl) cd_yes sc_is_chain_in.nd) da_nil))))
    (ss_cons (s_ret pd_bl)
    ss_nil)
    ss_nil)
  (ss_cons (s_if (PW.pt (tw_or (td_not (td_val (pd_callD D_are_near (hr.mono (by decide)) (da_cons (pd_var 0) (da_cons (pd_var 1) (da_cons (pd_var 2) da_nil)))))) (tw_or1 (td_not (td_val (pd_callD D_is_free (hr.mono (by decide)) (da_cons (pd_var 0) (da_cons (pd_var 1) (da_cons (pd_var 2) da_nil)))))))))
    (ss_cons (s_ret pd_bl)
    ss_nil)
    ss_nil)
  (ss_cons (s_ret (pd_or (pd_cmp (op_neD hr.units) rd_ne (pd_ix ix_any rd_ix (pd_var 0) pd_int) (pd_gstr' M.cFIRST)) (pd_one (pd_not (pd_callB (cr_any rfl) rd_any M.any boot_any (da_cons (pd_lc (own := [("gap", 5), ("kind", 6)]) (blkOk_by (N := ["way", "log", "value", "number", "kinds", "gap", "kind"]) (sc := defScope sT_is_chain_in) (by decide +kernel)) (di_seq (pd_slice (pd_var 1) do_none (do_some (pd_ix ix_any rd_ix (pd_var 2) pd_int)))) (fun _ _ _ _ _ => (pg_tup rfl (pgs_cons (pg_name (i := 5) sc_is_chain_in.nd rfl (Or.inl rfl)) (pgs_cons (pg_name (i := 6) sc_is_chain_in.nd rfl (Or.inl rfl)) pgs_nil)))) (fun _ _ _ _ _ => pts_nil) (fun _ _ _ _ _ => (pd_cmp op_in_seq rd_in pd_int (pd_callD D_steps_in (hr.mono (by decide)) (da_cons (pd_var 0) (da_cons (pd_var 6) da_nil))))) (gd_N (gds_cons (gds_cons gds_nil)) rfl) cd_yes sc_is_chain_in.nd) da_nil))))))
  ss_nil)))))
theorem ok_chain (M : Mg mg) (F : Df K mg "chain" sT_chain ["way", "log"]) (D_one_longer : Dk P w K mg base 5 "one_longer" ["way", "log", "rows"] (spD m_one_longer)) (D_is_chain_in : Dk P w K mg base 4 "is_chain_in" ["way", "log", "value"] (spD m_is_chain_in)) (D_longest_any : Dk P w K mg base 2 "longest_any" ["way", "log"] (spD m_longest_any)) (D_need_log : Dk P w K mg base 3 "need_log" ["thing"] (spD m_need_log)) (D_need_way : Dk P w K mg base 5 "need_way" ["thing"] (spD m_need_way)) : Dk P w K mg base 6 "chain" ["way", "log"] (spD m_chain) :=
  def_dk F sc_chain fun cdv A outer s H E fa hr =>
  (ss_cons (s_drop (pd_callD D_need_way (hr.mono (by decide)) (da_cons (pd_var 0) da_nil)))
  (ss_cons (s_drop (pd_callD D_need_log (hr.mono (by decide)) (da_cons (pd_var 1) da_nil)))
  (ss_cons (s_if (td_cmp (op_eqD hr.units) rd_eq (pd_ix ix_any rd_ix (pd_var 0) pd_int) (pd_gstr' M.cANY))
    (ss_cons (s_set (i := 2) rfl (Or.inl rfl) (pd_callD D_longest_any (hr.mono (by decide)) (da_cons (pd_var 0) (da_cons (pd_var 1) da_nil))) sc_chain.nd)
    (ss_cons (s_ret (pd_if (td_val (pd_callB (cr_all rfl) rd_all M.all boot_all (da_cons (pd_lc (own := [("one", 6)]) (blkOk_by (N := ["way", "log", "found", "rows", "best", "number", "one"]) (sc := defScope sT_chain) (by decide +kernel)) (di_seq (pd_var 2)) (fun _ _ _ _ _ => (pg_name (i := 6) sc_chain.nd rfl (Or.inl rfl))) (fun _ _ _ _ _ => pts_nil) (fun _ _ _ _ _ => (pd_cmp op_isN rd_isN (pd_var 6) pd_non)) (gd_1 6) cd_yes sc_chain.nd) da_nil))) pd_non (pd_var 2)))
    ss_nil))
    ss_nil)
  (ss_cons (s_setLc (i := 3) rfl (own := [("number", 5)]) (blkOk_by (N := ["way", "log", "found", "rows", "best", "number", "one"]) (sc := defScope sT_chain) (by decide +kernel)) (di_range1 (pd_callB call_len_seq rd_len M.len boot_len (da_cons (pd_var 1) da_nil)) M.range) (fun _ _ _ _ _ => (pg_name (i := 5) sc_chain.nd rfl (Or.inl rfl))) (fun _ _ _ _ _ => (pts_one (td_val (pd_callD D_is_chain_in (hr.mono (by decide)) (da_cons (pd_var 0) (da_cons (pd_var 1) (da_cons (pd_tup (da_cons (pd_var 5) da_nil)) da_nil))))))) (fun _ _ _ _ _ => (pd_tup (da_cons (pd_var 5) da_nil))) (gd_1 5) cd_T sc_chain.nd)
  (ss_cons (s_set (i := 4) rfl (Or.inl rfl) (pd_if (td_cmp (op_neD hr.units) rd_ne (pd_var 3) (pd_lst da_nil)) (pd_ix ix_any rd_ix (pd_var 3) pd_int) pd_non) sc_chain.nd)
  (ss_cons (s_while 20 PassesOwn.never (td_cmp (op_neD hr.units) rd_ne (pd_var 3) (pd_lst da_nil))
    (ss_cons (s_set (i := 4) rfl (Or.inl rfl) (pd_ix ix_any rd_ix (pd_var 3) pd_int) sc_chain.nd)
    (ss_cons (s_set (i := 3) rfl (Or.inl rfl) (pd_if (td_cmp op_lt rd_lt (pd_callB call_len_seq rd_len M.len boot_len (da_cons (pd_var 4) da_nil)) (pd_callB call_len_seq rd_len M.len boot_len (da_cons (pd_ix ix_any rd_ix (pd_var 0) pd_int) da_nil))) (pd_callD D_one_longer (hr.mono (by decide)) (da_cons (pd_var 0) (da_cons (pd_var 1) (da_cons (pd_var 3) da_nil)))) (pd_lst da_nil)) sc_chain.nd)
    ss_nil)))
  (ss_cons (s_ret (pd_var 4))
  ss_nil)))))))
theorem ok_law_chains (M : Mg mg) (F : Df K mg "_law_chains" sT_law_chains ["_law_way_here", "_law_log_here"]) (D_law_is_good : Dk P w K mg base 2 "_law_is_good" ["_law_way_here", "_law_log_here", "_law_row"] (spD m_law_is_good)) : Dk P w K mg base 3 "_law_chains" ["_law_way_here", "_law_log_here"] (spD m_law_chains) :=
  def_dk F sc_law_chains fun cdv A outer s H E fa hr =>
  (ss_cons (s_parN (i := 2) (j := 3) rfl rfl (by decide) (pe_lst (da_cons (pd_tup da_nil) da_nil)) new_lst (pd_lst da_nil) sc_law_chains.nd)
  (ss_cons (s_while 20 PassesOwn.never (td_cmp (op_neD hr.units) rd_ne (pd_var 2) (pd_lst da_nil))
    (ss_cons (s_set (i := 4) rfl (Or.inl rfl) (pd_lst da_nil) sc_law_chains.nd)
    (ss_cons (s_for PassesOwn.never (di_seq (pd_var 2)) (pg_name (i := 5) sc_law_chains.nd rfl (Or.inr rfl)) (gs_1 5)
      (ss_cons (s_set (i := 6) rfl (Or.inl rfl) (pd_if (td_cmp (op_neD hr.units) rd_ne (pd_var 5) (pd_tup da_nil)) (pd_op op_addA rd_add (pd_ix ix_any rd_ix (pd_var 5) (pd_neg pd_int)) pd_int) pd_int) sc_law_chains.nd)
      (ss_cons (s_set (i := 4) rfl (Or.inl rfl) (pd_op op_addA rd_add (pd_var 4) (pd_lc (own := [("_law_number", 7)]) (blkOk_by (N := ["_law_way_here", "_law_log_here", "_law_rows", "_law_found", "_law_fresh", "_law_row", "_law_begin", "_law_number"]) (sc := defScope sT_law_chains) (by decide +kernel)) (di_range2 (pd_var 6) (pd_callB call_len_seq rd_len M.len boot_len (da_cons (pd_var 1) da_nil)) M.range) (fun _ _ _ _ _ => (pg_name (i := 7) sc_law_chains.nd rfl (Or.inl rfl))) (fun _ _ _ _ _ => pts_nil) (fun _ _ _ _ _ => (pd_op op_addA rd_add (pd_var 5) (pd_tup (da_cons (pd_var 7) da_nil)))) (gd_1 7) cd_yes sc_law_chains.nd)) sc_law_chains.nd)
      ss_nil)))
    (ss_cons (s_new (i := 2) rfl (Or.inl rfl) (pe_lst da_nil) new_lst sc_law_chains.nd)
    (ss_cons (s_for PassesOwn.never (di_seq (pd_var 4)) (pg_name (i := 5) sc_law_chains.nd rfl (Or.inr rfl)) (gs_1 5)
      (ss_cons (s_if (PW.pt (tw_and (td_cmp op_le rd_le (pd_callB call_len_seq rd_len M.len boot_len (da_cons (pd_var 5) da_nil)) (pd_callB call_len_seq rd_len M.len boot_len (da_cons (pd_ix ix_any rd_ix (pd_var 0) pd_int) da_nil))) (tw_and1 (td_val (pd_callD D_law_is_good (hr.mono (by decide)) (da_cons (pd_var 0) (da_cons (pd_var 1) (da_cons (pd_var 5) da_nil))))))))
        (ss_cons (s_app (pv 2) (pd_var 5) (pe_bm PySem.F.plainAttrs_list PySem.F.slot_list_append PySem.F.type_list_append mt_append (pv 2) (pa_cons (pd_var 5) pa_nil)))
        ss_nil)
        ss_nil)
      ss_nil))
    (ss_cons (s_set (i := 3) rfl (Or.inl rfl) (pd_op op_addA rd_add (pd_var 3) (pd_var 2)) sc_law_chains.nd)
    ss_nil))))))
  (ss_cons (s_ret (pd_var 3))
  ss_nil)))
theorem ok_law_chain_right (M : Mg mg) (F : Df K mg "_law_chain_right" sT_law_chain_right ["_law_way_here", "_law_log_here", "_law_due"]) (D_law_is_good : Dk P w K mg base 2 "_law_is_good" ["_law_way_here", "_law_log_here", "_law_row"] (spD m_law_is_good)) (D_law_is_any : Dk P w K mg base 2 "_law_is_any" ["_law_way_here", "_law_log_here", "_law_row"] (spD m_law_is_any)) (D_chain : Dk P w K mg base 6 "chain" ["way", "log"] (spD m_chain)) (D_is_chain : Dk P w K mg base 6 "is_chain" ["way", "log", "value"] (spD m_is_chain)) : Dk P w K mg base 7 "_law_chain_right" ["_law_way_here", "_law_log_here", "_law_due"] (spD m_law_chain_right) :=
  def_dk F sc_law_chain_right fun cdv A outer s H E fa hr =>
  (ss_cons (s_set (i := 3) rfl (Or.inl rfl) (pd_callD D_chain (hr.mono (by decide)) (da_cons (pd_var 0) (da_cons (pd_var 1) da_nil))) sc_law_chain_right.nd)
  (ss_cons (s_if (PW.pt (tw_or (td_cmp (op_eqD hr.units) rd_eq (pd_var 2) pd_int) (tw_or1 (td_cmp op_isN rd_isN (pd_var 3) pd_non))))
    (ss_cons (s_ret (pd_and (pd_cmp (op_eqD hr.units) rd_eq (pd_var 2) pd_int) (pd_one (pd_cmp op_isN rd_isN (pd_var 3) pd_non))))
    ss_nil)
    ss_nil)
  (ss_cons (s_if (PW.pt (tw_or (td_not (td_val (pd_isi (pd_var 3) M.isinstance M.tuple boot_tuple))) (tw_or (td_cmp op_notBl rd_notB (pd_callD D_is_chain (hr.mono (by decide)) (da_cons (pd_var 0) (da_cons (pd_var 1) (da_cons (pd_var 3) da_nil)))) pd_bl) (tw_or1 (td_cmp (op_neD hr.units) rd_ne (pd_callD D_chain (hr.mono (by decide)) (da_cons (pd_var 0) (da_cons (pd_var 1) da_nil))) (pd_var 3))))))
    (ss_cons (s_ret pd_bl)
    ss_nil)
    ss_nil)
  (ss_cons (s_if (td_cmp (op_eqD hr.units) rd_eq (pd_ix ix_any rd_ix (pd_var 0) pd_int) pd_str)
    (ss_cons (s_ret (pd_and (pd_callD D_law_is_any (hr.mono (by decide)) (da_cons (pd_var 0) (da_cons (pd_var 1) (da_cons (pd_var 3) da_nil)))) (pd_one (pd_cmp (op_eqD hr.units) rd_eq (pd_callB call_len_seq rd_len M.len boot_len (da_cons (pd_lc (own := [("_law_one", 4)]) (blkOk_by (N := ["_law_way_here", "_law_log_here", "_law_due", "_law_row", "_law_one"]) (sc := defScope sT_law_chain_right) (by decide +kernel)) (di_seq (pd_var 3)) (fun _ _ _ _ _ => (pg_name (i := 4) sc_law_chain_right.nd rfl (Or.inl rfl))) (fun _ _ _ _ _ => (pts_one (td_cmp op_notN rd_notN (pd_var 4) pd_non))) (fun _ _ _ _ _ => (pd_var 4)) (gd_1 4) cd_T sc_law_chain_right.nd) da_nil)) (pd_var 2)))))
    ss_nil)
    ss_nil)
  (ss_cons (s_if (PW.pt (tw_or (td_cmp (op_neD hr.units) rd_ne (pd_callTy call_list_of rd_list M.list boot_list (da_cons (pd_var 3) da_nil)) (pd_sortSet (pd_var 3) M.sorted M.set)) (tw_or1 (td_cmp (op_neD hr.units) rd_ne (pd_callB call_len_seq rd_len M.len boot_len (da_cons (pd_var 3) da_nil)) (pd_var 2)))))
    (ss_cons (s_ret pd_bl)
    ss_nil)
    ss_nil)
  (ss_cons (s_ret (pd_callD D_law_is_good (hr.mono (by decide)) (da_cons (pd_var 0) (da_cons (pd_var 1) (da_cons (pd_var 3) da_nil)))))
  ss_nil))))))
end
end Sb
end
section
set_option Elab.async false
set_option linter.all false
set_option maxRecDepth 100000
set_option maxHeartbeats 4000000
/-! The derivations (printed by gen.py). -/
namespace Sb
open PySem PySem.Spec L2
open PyProof.Rows hiding St
section
variable {P : Program} {w : World} {K : PySem.W.Frag} {mg : Str → Option Value} {base : Heap}
theorem ok_are_steps (M : Mg mg) (F : Df K mg "are_steps" sT_are_steps ["value"]) (D_are_kinds : Dk P w K mg base 2 "are_kinds" ["value"] (spD m_are_kinds)) : Dk P w K mg base 3 "are_steps" ["value"] (spD m_are_steps) :=
  def_dk F sc_are_steps fun cdv A outer s H E fa hr =>
  (ss_cons (s_if (PW.pt (tw_or (td_not (td_val (pd_isi (pd_var 0) M.isinstance M.tuple boot_tuple))) (tw_or1 (td_not (td_chain op_le rd_le op_le rd_le pd_int (pd_callB call_len_seq rd_len M.len boot_len (da_cons (pd_var 0) da_nil)) (pd_gint' M.cMOST_STEPS))))))
    (ss_cons (s_ret pd_bl)
    ss_nil)
    ss_nil)
  (ss_cons (s_ret (pd_callB (cr_all rfl) rd_all M.all boot_all (da_cons (pd_lc (own := [("one", 1)]) (blkOk_by (N := ["value", "one"]) (sc := defScope sT_are_steps) (by decide +kernel)) (di_seq (pd_var 0)) (fun _ _ _ _ _ => (pg_name (i := 1) sc_are_steps.nd rfl (Or.inl rfl))) (fun _ _ _ _ _ => pts_nil) (fun _ _ _ _ _ => (pd_callD D_are_kinds (hr.mono (by decide)) (da_cons (pd_var 1) da_nil))) (gd_1 1) cd_yes sc_are_steps.nd) da_nil)))
  ss_nil))
theorem ok_is_event (M : Mg mg) (F : Df K mg "is_event" sT_is_event ["value"]) (D_is_integer : Dk P w K mg base 1 "is_integer" ["value", "least", "most"] (spD m_is_integer)) : Dk P w K mg base 2 "is_event" ["value"] (spD m_is_event) :=
  def_dk F sc_is_event fun cdv A outer s H E fa hr =>
  (ss_cons (s_if (PW.pt (tw_or (td_not (td_val (pd_isi (pd_var 0) M.isinstance M.tuple boot_tuple))) (tw_or1 (td_cmp (op_neD hr.units) rd_ne (pd_callB call_len_seq rd_len M.len boot_len (da_cons (pd_var 0) da_nil)) pd_int))))
    (ss_cons (s_ret pd_bl)
    ss_nil)
    ss_nil)
  (ss_cons (s_ret (pd_and (pd_callD D_is_integer (hr.mono (by decide)) (da_cons (pd_ix ix_any rd_ix (pd_var 0) pd_int) (da_cons pd_int (da_cons (pd_gint' M.cMOST_GAP) da_nil)))) (pd_one (pd_callD D_is_integer (hr.mono (by decide)) (da_cons (pd_ix ix_any rd_ix (pd_var 0) pd_int) (da_cons pd_int (da_cons (pd_gint' M.cMOST_KIND) da_nil)))))))
  ss_nil))
theorem ok_grown (M : Mg mg) (F : Df K mg "grown" sT_grown ["ages", "gap", "window"]) : Dk P w K mg base 1 "grown" ["ages", "gap", "window"] (spD m_grown) :=
  def_dk F sc_grown fun cdv A outer s H E fa hr =>
  (ss_cons (s_ret (pd_callTy call_tuple_of rd_tuple M.tuple boot_tuple (da_cons (pd_lc (own := [("age", 3)]) (blkOk_by (N := ["ages", "gap", "window", "age"]) (sc := defScope sT_grown) (by decide +kernel)) (di_seq (pd_var 0)) (fun _ _ _ _ _ => (pg_name (i := 3) sc_grown.nd rfl (Or.inl rfl))) (fun _ _ _ _ _ => pts_nil) (fun _ _ _ _ _ => (pd_if (PW.pt (tw_or (td_cmp op_isN rd_isN (pd_var 3) pd_non) (tw_or1 (td_cmp op_gt rd_gt (pd_op op_addA rd_add (pd_var 3) (pd_var 1)) (pd_var 2))))) pd_non (pd_op op_addA rd_add (pd_var 3) (pd_var 1)))) (gd_1 3) cd_yes sc_grown.nd) da_nil)))
  ss_nil)
theorem ok_behind_all (M : Mg mg) (F : Df K mg "behind_all" sT_behind_all ["way", "log"]) (D_behind_in : Dk P w K mg base 3 "behind_in" ["way", "standing", "event"] (spD m_behind_in)) (D_first_in : Dk P w K mg base 1 "first_in" ["way"] (spD m_first_in)) : Dk P w K mg base 4 "behind_all" ["way", "log"] (spD m_behind_all) :=
  def_dk F sc_behind_all fun cdv A outer s H E fa hr =>
  (ss_cons (s_set (i := 2) rfl (Or.inl rfl) (pd_callD D_first_in (hr.mono (by decide)) (da_cons (pd_var 0) da_nil)) sc_behind_all.nd)
  (ss_cons (s_for PassesOwn.never (di_seq (pd_var 1)) (pg_name (i := 3) sc_behind_all.nd rfl (Or.inl rfl)) (gs_1 3)
    (ss_cons (s_set (i := 2) rfl (Or.inl rfl) (pd_callD D_behind_in (hr.mono (by decide)) (da_cons (pd_var 0) (da_cons (pd_var 2) (da_cons (pd_var 3) da_nil)))) sc_behind_all.nd)
    ss_nil))
  (ss_cons (s_ret (pd_var 2))
  ss_nil)))
theorem ok_are_near (M : Mg mg) (F : Df K mg "are_near" sT_are_near ["way", "log", "row"]) (D_times_in : Dk P w K mg base 1 "times_in" ["log"] (spD m_times_in)) : Dk P w K mg base 2 "are_near" ["way", "log", "row"] (spD m_are_near) :=
  def_dk F sc_are_near fun cdv A outer s H E fa hr =>
  (ss_cons (s_set (i := 3) rfl (Or.inr rfl) (pd_callD D_times_in (hr.mono (by decide)) (da_cons (pd_var 1) da_nil)) sc_are_near.nd)
  (ss_cons (s_if (td_cmp (op_eqD hr.units) rd_eq (pd_ix ix_any rd_ix (pd_var 0) pd_int) (pd_gstr' M.cEACH))
    (ss_cons (s_ret (pd_callB (cr_all rfl) rd_all M.all boot_all (da_cons (pd_lc (own := [("one", 4), ("other", 5)]) (blkOk_by (N := ["way", "log", "row", "when", "one", "other"]) (sc := defScope sT_are_near) (by decide +kernel)) (di_zip (pd_var 2) (pd_slice (pd_var 2) (do_some pd_int) do_none) M.zip) (fun _ _ _ _ _ => (pg_tup rfl (pgs_cons (pg_name (i := 4) sc_are_near.nd rfl (Or.inl rfl)) (pgs_cons (pg_name (i := 5) sc_are_near.nd rfl (Or.inl rfl)) pgs_nil)))) (fun _ _ _ _ _ => pts_nil) (fun _ _ _ _ _ => (pd_cmp op_le rd_le (pd_op op_sub rd_sub (pd_ix ix_any rd_ix (pd_var 3) (pd_var 5)) (pd_ix ix_any rd_ix (pd_var 3) (pd_var 4))) (pd_ix ix_any rd_ix (pd_var 0) pd_int))) (gd_N (gds_cons (gds_cons gds_nil)) rfl) cd_yes sc_are_near.nd) da_nil)))
    ss_nil)
    ss_nil)
  (ss_cons (s_ret (pd_cmp op_le rd_le (pd_op op_sub rd_sub (pd_ix ix_any rd_ix (pd_var 3) (pd_ix ix_any rd_ix (pd_var 2) (pd_neg pd_int))) (pd_ix ix_any rd_ix (pd_var 3) (pd_ix ix_any rd_ix (pd_var 2) pd_int))) (pd_ix ix_any rd_ix (pd_var 0) pd_int)))
  ss_nil)))
theorem ok_is_chain (M : Mg mg) (F : Df K mg "is_chain" sT_is_chain ["way", "log", "value"]) (D_is_chain_in : Dk P w K mg base 4 "is_chain_in" ["way", "log", "value"] (spD m_is_chain_in)) (D_need_log : Dk P w K mg base 3 "need_log" ["thing"] (spD m_need_log)) (D_need_way : Dk P w K mg base 5 "need_way" ["thing"] (spD m_need_way)) : Dk P w K mg base 6 "is_chain" ["way", "log", "value"] (spD m_is_chain) :=
  def_dk F sc_is_chain fun cdv A outer s H E fa hr =>
  (ss_cons (s_drop (pd_callD D_need_way (hr.mono (by decide)) (da_cons (pd_var 0) da_nil)))
  (ss_cons (s_ret (pd_callD D_is_chain_in (hr.mono (by decide)) (da_cons (pd_var 0) (da_cons (pd_callD D_need_log (hr.mono (by decide)) (da_cons (pd_var 1) da_nil)) (da_cons (pd_var 2) da_nil)))))
  ss_nil))
theorem ok_law_when (M : Mg mg) (F : Df K mg "_law_when" sT_law_when ["_law_log_here"]) : Dk P w K mg base 1 "_law_when" ["_law_log_here"] (spD m_law_when) :=
  def_dk F sc_law_when fun cdv A outer s H E fa hr =>
  (ss_cons (s_parN (i := 1) (j := 2) rfl rfl (by decide) (pe_lst da_nil) new_lst pd_int sc_law_when.nd)
  (ss_cons (s_for PassesOwn.never (di_seq (pd_var 0)) (pg_tup rfl (pgs_cons (pg_name (i := 3) sc_law_when.nd rfl (Or.inl rfl)) (pgs_cons (pg_name (i := 4) sc_law_when.nd rfl (Or.inl rfl)) pgs_nil))) (gs_N (gss_cons (gss_cons gss_nil)) rfl)
    (ss_cons (s_set (i := 2) rfl (Or.inl rfl) (pd_op op_addA rd_add (pd_var 2) (pd_var 3)) sc_law_when.nd)
    (ss_cons (s_app (pv 1) (pd_var 2) (pe_bm PySem.F.plainAttrs_list PySem.F.slot_list_append PySem.F.type_list_append mt_append (pv 1) (pa_cons (pd_var 2) pa_nil)))
    ss_nil)))
  (ss_cons (s_ret (pd_var 1))
  ss_nil)))
theorem ok_law_most_near (M : Mg mg) (F : Df K mg "_law_most_near" sT_law_most_near ["_law_way_here", "_law_log_here"]) (D_law_is_of : Dk P w K mg base 1 "_law_is_of" ["_law_way_here", "_law_kind"] (spD m_law_is_of)) (D_law_when : Dk P w K mg base 1 "_law_when" ["_law_log_here"] (spD m_law_when)) : Dk P w K mg base 2 "_law_most_near" ["_law_way_here", "_law_log_here"] (spD m_law_most_near) :=
  def_dk F sc_law_most_near fun cdv A outer s H E fa hr =>
  (ss_cons (s_par (i := 2) (j := 3) rfl rfl (by decide) (pd_callD D_law_when (hr.mono (by decide)) (da_cons (pd_var 1) da_nil)) pd_int sc_law_most_near.nd)
  (ss_cons (s_for PassesOwn.never (di_range1 (pd_callB call_len_seq rd_len M.len boot_len (da_cons (pd_var 1) da_nil)) M.range) (pg_name (i := 4) sc_law_most_near.nd rfl (Or.inl rfl)) (gs_1 4)
    (ss_cons (s_set (i := 5) rfl (Or.inl rfl) (pd_lst da_nil) sc_law_most_near.nd)
    (ss_cons (s_for PassesOwn.never (di_range1 (pd_op op_addA rd_add (pd_var 4) pd_int) M.range) (pg_name (i := 6) sc_law_most_near.nd rfl (Or.inl rfl)) (gs_1 6)
      (ss_cons (s_if (td_cmp op_le rd_le (pd_op op_sub rd_sub (pd_ix ix_any rd_ix (pd_var 2) (pd_var 4)) (pd_ix ix_any rd_ix (pd_var 2) (pd_var 6))) (pd_ix ix_any rd_ix (pd_var 0) pd_int))
        (ss_cons (s_set (i := 5) rfl (Or.inl rfl) (pd_op op_addA rd_add (pd_var 5) (pd_callD D_law_is_of (hr.mono (by decide)) (da_cons (pd_var 0) (da_cons (pd_ix ix_any rd_ix (pd_ix ix_any rd_ix (pd_var 1) (pd_var 6)) pd_int) da_nil)))) sc_law_most_near.nd)
        ss_nil)
        ss_nil)
      ss_nil))
    (ss_cons (s_set (i := 3) rfl (Or.inl rfl) (pd_callB (call_max2 rfl) rd_max2 M.max boot_max (da_cons (pd_var 3) (da_cons (pd_lenSet (pd_var 5) M.len M.set) da_nil))) sc_law_most_near.nd)
    ss_nil))))
  (ss_cons (s_ret (pd_var 3))
  ss_nil)))
end
end Sb
end
section
set_option Elab.async false
set_option linter.all false
set_option maxRecDepth 100000
set_option maxHeartbeats 4000000
/-! Ev0: the meanings' building stones, applied. -/
namespace Sb
open PySem PySem.Spec L2
open PyProof.Rows hiding St
section
variable {env : En} {fa fb fc : En → Option PyData} {ta tb : En → Option Bool} {fs : En → Option (List PyData)} {g g1 g2 : PyData → PyData → Option PyData} {h : PyData → Option PyData} {sl : List Sl} {u v : Sm} {i j : Nat} {d : PyData}
@[simp] theorem eV_ap : eV i env = (env[i]?).join := rfl
@[simp] theorem eC_ap : eC d env = some d := rfl
@[simp] theorem e1_ap : e1 h fa env = (fa env).bind h := rfl
@[simp] theorem e2_ap : e2 g fa fb env = (fa env).bind fun a => (fb env).bind fun b => g a b := rfl
@[simp] theorem fT_ap : fT fa env = (fa env).bind asB := rfl
@[simp] theorem asB_b (b : Bool) : asB (.bool b) = some b := rfl
@[simp] theorem asI_i (b : Int) : asI (.int b) = some b := rfl
@[simp] theorem fAnd_ap : fAnd ta tb env = (ta env).bind fun x => if x = true then tb env else some false := rfl
@[simp] theorem fOr_ap : fOr ta tb env = (ta env).bind fun x => if x = true then some true else tb env := rfl
@[simp] theorem fNot_ap : fNot ta env = (ta env).map fun x => !x := rfl
@[simp] theorem eAnd_ap : eAnd fa fb env = (fT fa env).bind fun x => if x = true then fb env else some (.bool false) := rfl
@[simp] theorem eOr_ap : eOr fa fb env = (fT fa env).bind fun x => if x = true then some (.bool true) else fb env := rfl
@[simp] theorem eNot_ap : eNot fa env = (fT fa env).map fun x => .bool (!x) := rfl
@[simp] theorem eIf_ap : eIf ta fa fb env = (ta env).bind fun x => if x = true then fa env else fb env := rfl
@[simp] theorem eChain_ap : eChain g1 g2 fa fb fc env = (fa env).bind fun x => (fb env).bind fun y => ((g1 x y).bind asB).bind fun k => if k = true then (fc env).bind fun z => g2 y z else some (.bool false) := rfl
@[simp] theorem aN_ap : aN env = some [] := rfl
@[simp] theorem aC_ap : aC fa fs env = (fa env).bind fun x => (fs env).map fun xs => x :: xs := rfl
@[simp] theorem aS_ap : aS fa fs env = ((fa env).bind items).bind fun x => (fs env).map fun xs => x ++ xs := rfl
@[simp] theorem items_l (ds : List PyData) : items (.list ds) = some ds := rfl
@[simp] theorem items_t (ds : List PyData) : items (.tuple ds) = some ds := rfl
@[simp] theorem cap_nil : cap [] = some [] := rfl
@[simp] theorem cap_1 (a : PyData) : cap [a] = some [a] := rfl
@[simp] theorem cap_2 (a b : PyData) : cap [a, b] = some [a, b] := rfl
@[simp] theorem cap_3 (a b c : PyData) : cap [a, b, c] = some [a, b, c] := rfl
@[simp] theorem cap_4 (a b c d : PyData) : cap [a, b, c, d] = some [a, b, c, d] := rfl
@[simp] theorem eTup_ap : eTup fs env = ((fs env).bind cap).map .tuple := rfl
@[simp] theorem eLst_ap : eLst fs env = ((fs env).bind cap).map .list := rfl
@[simp] theorem eF_ap {m : List PyData → Option PyData} : eF m fs env = (fs env).bind m := rfl
@[simp] theorem eIsi_ap {T : String} : eIsi T fa env = ((fa env).bind (isT T)).map .bool := rfl
@[simp] theorem oN_ap : oN env = some none := rfl
@[simp] theorem oS_ap : oS fa env = ((fa env).bind asI).map some := rfl
@[simp] theorem eSl_ap {lo hi : En → Option (Option Int)} : eSl fa lo hi env = (fa env).bind fun x => (lo env).bind fun l => (hi env).bind fun u => pySl l u x := rfl
@[simp] theorem iS_ap : iS fa env = (fa env).bind items := rfl
@[simp] theorem iE_ap : iE fa env = ((fa env).bind items).map (enumFrom 0) := rfl
@[simp] theorem iZ_ap : iZ fa fb env = (fa env).bind fun a => (fb env).bind fun b => zipK a b := rfl
@[simp] theorem zipK_ll (a b : List PyData) : zipK (.list a) (.list b) = some (zipD a b) := rfl
@[simp] theorem zipK_tt (a b : List PyData) : zipK (.tuple a) (.tuple b) = some (zipD a b) := rfl
@[simp] theorem zipK_tl (a b : List PyData) : zipK (.tuple a) (.list b) = some (zipD a b) := rfl
@[simp] theorem iR1_ap : iR1 fa env = ((fa env).bind asI).bind fun n => if -100000 ≤ n ∧ n ≤ 100000 then some (rangeD 0 n.toNat) else none := rfl
@[simp] theorem iR2_ap : iR2 fa fb env = ((fa env).bind asI).bind fun lo => ((fb env).bind asI).bind fun n => if (-100000 ≤ lo ∧ lo ≤ 100000) ∧ -100000 ≤ n ∧ n ≤ 100000 then some (rangeD lo (n - lo).toNat) else none := rfl
@[simp] theorem eLc_ap {fi : En → Option (List PyData)} {t : PyData → En → Option En} {vs : List Nat} : eLc fi t ta fa vs env = ((fi env).bind cap).bind fun ds => (compL t ta fa (wipeE env vs) ds).map .list := rfl
@[simp] theorem pyIx_l (ds : List PyData) (i : Int) : pyIx (.list ds) (.int i) = atI ds i := rfl
@[simp] theorem pyIx_t (ds : List PyData) (i : Int) : pyIx (.tuple ds) (.int i) = atI ds i := rfl
@[simp] theorem pyAdd_i (a b : Int) : pyAdd (.int a) (.int b) = some (.int (a + b)) := rfl
@[simp] theorem pySub_i (a b : Int) : pySub (.int a) (.int b) = some (.int (a - b)) := rfl
@[simp] theorem pyCmp_i (f : Int → Int → Bool) (a b : Int) : pyCmp f (.int a) (.int b) = some (.bool (f a b)) := rfl
@[simp] theorem pyIsN_n : pyIsN .none .none = some (.bool true) := rfl
@[simp] theorem pyIsN_i (i : Int) : pyIsN (.int i) .none = some (.bool false) := rfl
@[simp] theorem pyNotN_n : pyNotN .none .none = some (.bool false) := rfl
@[simp] theorem pyNotN_i (i : Int) : pyNotN (.int i) .none = some (.bool true) := rfl
@[simp] theorem pyIsN_t (i : List PyData) : pyIsN (.tuple i) .none = some (.bool false) := rfl
@[simp] theorem pyNotN_t (i : List PyData) : pyNotN (.tuple i) .none = some (.bool true) := rfl
@[simp] theorem pyLen_l (ds : List PyData) : pyLen [.list ds] = some (.int (ds.length : Nat)) := rfl
@[simp] theorem pyLen_t (ds : List PyData) : pyLen [.tuple ds] = some (.int (ds.length : Nat)) := rfl
@[simp] theorem pyTuple_l (ds : List PyData) : pyTuple [.list ds] = some (.tuple ds) := rfl
@[simp] theorem pyTuple_t (ds : List PyData) : pyTuple [.tuple ds] = some (.tuple ds) := rfl
@[simp] theorem pyList_l (ds : List PyData) : pyList [.list ds] = some (.list ds) := rfl
@[simp] theorem pyList_t (ds : List PyData) : pyList [.tuple ds] = some (.list ds) := rfl
@[simp] theorem pyNeg_i (i : Int) : pyNeg (.int i) = some (.int (-i)) := rfl
@[simp] theorem pySl_l (lo hi : Option Int) (ds : List PyData) : pySl lo hi (.list ds) = some (.list (cutL ds lo hi)) := rfl
@[simp] theorem pySl_t (lo hi : Option Int) (ds : List PyData) : pySl lo hi (.tuple ds) = some (.tuple (cutL ds lo hi)) := rfl
theorem pyAll_l (bs : List Bool) : pyAll [.list (bs.map .bool)] = some (.bool (bs.all id)) := by
  show ((bools (bs.map .bool)).map fun bs => PyData.bool (bs.all id)) = _
  rw [bools_map] <;> rfl
theorem pyAny_l (bs : List Bool) : pyAny [.list (bs.map .bool)] = some (.bool (bs.any id)) := by
  show ((bools (bs.map .bool)).map fun bs => PyData.bool (bs.any id)) = _
  rw [bools_map] <;> rfl
@[simp] theorem pyAll_m {α : Type} (f : α → Bool) (xs : List α) : pyAll [.list (xs.map fun x => .bool (f x))] = some (.bool (xs.all f)) := by
  have h := pyAll_l (xs.map f)
  rw [List.map_map, List.all_map] at h
  exact h
@[simp] theorem pyAny_m {α : Type} (f : α → Bool) (xs : List α) : pyAny [.list (xs.map fun x => .bool (f x))] = some (.bool (xs.any f)) := by
  have h := pyAny_l (xs.map f)
  rw [List.map_map, List.any_map] at h
  exact h
/-! slots -/
@[simp] theorem dats_nil : dats [] = [] := rfl
@[simp] theorem dats_cons (s : Sl) (r : List Sl) : dats (s :: r) = s.d1 :: dats r := rfl
@[simp] theorem alls_nil : alls [] = [] := rfl
@[simp] theorem alls_cons (s : Sl) (r : List Sl) : alls (s :: r) = s.d2 :: alls r := rfl
@[simp] theorem relA_nil : relA [] = [] := rfl
@[simp] theorem relA_cons (s : Sl) (r : List Sl) : relA (s :: r) = s.rel :: relA r := rfl
@[simp] theorem d1_no : Sl.no.d1 = none := rfl
@[simp] theorem d1_dat : (Sl.dat d).d1 = some d := rfl
@[simp] theorem d1_own : (Sl.own d).d1 = none := rfl
@[simp] theorem d2_no : Sl.no.d2 = none := rfl
@[simp] theorem d2_dat : (Sl.dat d).d2 = some d := rfl
@[simp] theorem d2_own : (Sl.own d).d2 = some d := rfl
@[simp] theorem rel_no : Sl.no.rel = .no := rfl
@[simp] theorem rel_dat : (Sl.dat d).rel = .dat d := rfl
@[simp] theorem rel_own : (Sl.own d).rel = .dat d := rfl
@[simp] theorem wipeE_nil : wipeE env [] = env := rfl
@[simp] theorem wipeE_cons (v : Nat) (vs : List Nat) : wipeE env (v :: vs) = (wipeE env vs).set v none := rfl
@[simp] theorem scd_b (b : Bool) : scd (.bool b) = true := rfl
@[simp] theorem scd_i (b : Int) : scd (.int b) = true := rfl
@[simp] theorem scd_n : scd .none = true := rfl
@[simp] theorem scd_s (x : Str) : scd (.str x) = true := rfl
@[simp] theorem scd_l (x : List PyData) : scd (.list x) = false := rfl
@[simp] theorem scd_t (x : List PyData) : scd (.tuple x) = false := rfl
@[simp] theorem evS_ap : evS fa sl = (match fa (dats sl) with
  | some d => some (d, sl)
  | none => match fa (alls sl) with
    | some d => some (d, if scd d = true then sl else relA sl)
    | none => none) := rfl
@[simp] theorem nextS_ap : nextS sl = some (.nx sl) := rfl
@[simp] theorem seqS_ap : seqS u v sl = (u sl).bind fun o => match o with
  | .nx env' => v env'
  | .rt d => some (.rt d) := rfl
@[simp] theorem retS_ap : retS fa sl = (fa (alls sl)).map .rt := rfl
@[simp] theorem ifS_ap : ifS ta u v sl = (ta (alls sl)).bind fun b => if b = true then u sl else v sl := rfl
@[simp] theorem asgS_ap : asgS i fa sl = (evS fa sl).map fun p => .nx (p.2.set i (.dat p.1)) := rfl
@[simp] theorem asgN_ap : asgN i fa sl = (fa (dats sl)).map fun d => .nx (sl.set i (.own d)) := rfl
@[simp] theorem parS_ap : parS i j fa fb sl = (evS fa sl).bind fun p => (evS fb p.2).bind fun q => some (.nx ((q.2.set i (.dat p.1)).set j (.dat q.1))) := rfl
@[simp] theorem parN_ap : parN i j fa fb sl = (fa (dats sl)).bind fun d1 => (fb (dats sl)).bind fun d2 => some (.nx ((sl.set i (.own d1)).set j (.dat d2))) := rfl
@[simp] theorem unpS_ap {t : PyData → List Sl → Option (List Sl)} : unpS t fa sl = (evS fa sl).bind fun p => (t p.1 p.2).map .nx := rfl
@[simp] theorem augS_ap : augS i fa sl = ((evS (eV i) sl).bind fun p => asI p.1).bind fun a => (evS fa sl).bind fun p => (asI p.1).map fun b => .nx (p.2.set i (.dat (.int (a + b)))) := rfl
@[simp] theorem dropS_ap : dropS fa sl = (evS fa sl).map fun p => .nx p.2 := rfl
@[simp] theorem appS_ap : appS i fa sl = (sl[i]?.bind lstS).bind fun ds => if ds.length < 100000 then (fa (dats sl)).map fun d => .nx (sl.set i (.own (.list (ds ++ [d])))) else none := rfl
@[simp] theorem lstS_o (ds : List PyData) : lstS (.own (.list ds)) = some ds := rfl
@[simp] theorem stoS_ap : stoS i fa fb sl = (sl[i]?.bind lstS).bind fun ds => (fb (dats sl)).bind fun d => ((fa (dats sl)).bind asI).bind fun k => (ixN ds.length k).map fun j => .nx (sl.set i (.own (.list (ds.set j d)))) := rfl
@[simp] theorem itS_ap {fi : En → Option (List PyData)} : itS fi sl = (match fi (dats sl) with
  | some ds => some (ds, sl)
  | none => (fi (alls sl)).map fun ds => (ds, relA sl)) := rfl
@[simp] theorem forS_ap {fi : En → Option (List PyData)} {t : PyData → List Sl → Option (List Sl)} : forS fi t u sl = (itS fi sl).bind fun p => loopS t u p.1 p.2 := rfl
@[simp] theorem sg1_ap : sg1 i d sl = some (sl.set i (.dat d)) := rfl
@[simp] theorem sgN_ap (is : List Nat) (ds : List PyData) : sgN is (.tuple ds) sl = sgs is ds sl := rfl
@[simp] theorem sgs_nil : sgs [] [] sl = some sl := rfl
@[simp] theorem sgs_cons (is : List Nat) (ds : List PyData) : sgs (i :: is) (d :: ds) sl = sgs is ds (sl.set i (.dat d)) := rfl
@[simp] theorem tg1_ap : tg1 i d env = some (env.set i (some d)) := rfl
@[simp] theorem tgN_ap (is : List Nat) (ds : List PyData) : tgN is (.tuple ds) env = tgs is ds env := rfl
@[simp] theorem tgs_nil : tgs [] [] env = some env := rfl
@[simp] theorem tgs_cons (is : List Nat) (ds : List PyData) : tgs (i :: is) (d :: ds) env = tgs is ds (env.set i (some d)) := rfl
@[simp] theorem rtO_rt : rtO (.rt d) = some d := rfl
@[simp] theorem loopS_nil {t : PyData → List Sl → Option (List Sl)} : loopS t u [] sl = some (.nx sl) := rfl
theorem loopS_cons {t : PyData → List Sl → Option (List Sl)} (ds : List PyData) : loopS t u (d :: ds) sl = (t d sl).bind fun env' => (u env').bind fun o => match o with
    | .nx e => loopS t u ds e
    | .rt r => some (.rt r) := rfl
end
/-! places -/
@[simp] theorem atI_nat {α : Type} (xs : List α) (n : Nat) : atI xs (n : Int) = xs[n]? := by
  unfold atI ixN
  rw [if_pos (Int.natCast_nonneg n)]
  by_cases h : n < xs.length
  · rw [if_pos (by omega)]
    show xs[((n : Int)).toNat]? = _
    rw [Int.toNat_natCast]
  · rw [if_neg (by omega), List.getElem?_eq_none (by omega)] <;> rfl
@[simp] theorem atI_0 {α : Type} (xs : List α) : atI xs 0 = xs[0]? := atI_nat xs 0
@[simp] theorem atI_1 {α : Type} (xs : List α) : atI xs 1 = xs[1]? := atI_nat xs 1
@[simp] theorem atI_2 {α : Type} (xs : List α) : atI xs 2 = xs[2]? := atI_nat xs 2
@[simp] theorem atI_3 {α : Type} (xs : List α) : atI xs 3 = xs[3]? := atI_nat xs 3
@[simp] theorem atI_4 {α : Type} (xs : List α) : atI xs 4 = xs[4]? := atI_nat xs 4
theorem atI_last {α : Type} (xs : List α) : atI xs (-1) = xs.getLast? := by
  unfold atI ixN
  rw [if_neg (by decide), List.getLast?_eq_getElem?]
  cases xs with
  | nil => rfl
  | cons x r =>
    rw [if_pos (by simp only [List.length_cons]; omega)]
    show (x :: r)[_]? = _
    congr 1
    simp only [List.length_cons]
    omega
end Sb
end
section
set_option Elab.async false
set_option linter.all false
set_option maxRecDepth 100000
set_option maxHeartbeats 4000000
/-! Ev1: ways and logs as data; what the small defs give. -/
namespace Sb
open PySem PySem.Spec L2
open PyProof.Rows hiding St

inductive Ps where
  | loose | among | strict | any
  deriving DecidableEq
def Ps.s : Ps → Str
  | .loose => "loose"
  | .among => "among"
  | .strict => "strict"
  | .any => "any"
def spS (b : Bool) : Str := if b = true then "each" else "whole"
def beS (b : Bool) : Str := if b = true then "first" else "all"
/-- a way of counting -/
structure Way where
  st : List (List Int)
  ps : Ps
  ea : Bool
  wi : Int
  fi : Bool
abbrev Log := List (Int × Int)
def eKs (ks : List Int) : PyData := .tuple (ks.map .int)
def eW (w : Way) : PyData := .tuple [.tuple (w.st.map eKs), .str w.ps.s, .str (spS w.ea), .int w.wi, .str (beS w.fi)]
def eEv (e : Int × Int) : PyData := .tuple [.int e.1, .int e.2]
def eL (l : Log) : PyData := .tuple (l.map eEv)
structure Way.Ok (w : Way) : Prop where
  s1 : 1 ≤ w.st.length
  s4 : w.st.length ≤ 4
  ks : ∀ k ∈ w.st, k ≠ [] ∧ k.Pairwise (· < ·) ∧ (∀ x ∈ k, 0 ≤ x ∧ x ≤ 4) ∧ k.length ≤ 100
  w0 : 0 ≤ w.wi
  w8 : w.wi ≤ 8
  an : w.ps = .any → w.ea = false ∧ w.fi = false
structure LogOk (l : Log) : Prop where
  gk : ∀ e ∈ l, (0 ≤ e.1 ∧ e.1 ≤ 10 ^ 30) ∧ 0 ≤ e.2 ∧ e.2 ≤ 4
  n : l.length ≤ 1000

/-! ### tools -/
theorem compL_eq {α : Type} {t : PyData → En → Option En} {c : En → Option Bool} {e : En → Option PyData} {env : En} (enc : α → PyData) (p : α → Bool) (f : α → PyData) : ∀ xs : List α,
    (∀ x ∈ xs, ∃ env', t (enc x) env = some env' ∧ c env' = some (p x) ∧ (p x = true → e env' = some (f x))) → compL t c e env (xs.map enc) = some ((xs.filter p).map f)
  | [], _ => rfl
  | x :: xs, h => by
    obtain ⟨env', h1, h2, h3⟩ := h x List.mem_cons_self
    have ih := compL_eq enc p f xs fun y hy => h y (List.mem_cons_of_mem _ hy)
    rw [List.map_cons, compL, h1, Option.bind_some, h2, Option.bind_some]
    cases hp : p x with
    | true => rw [if_pos rfl, h3 hp, Option.bind_some, ih, Option.map_some, List.filter_cons, if_pos hp, List.map_cons]
    | false => rw [if_neg Bool.false_ne_true, ih, List.filter_cons, if_neg (by rw [hp]; exact Bool.false_ne_true)]
theorem compL_all {α : Type} {t : PyData → En → Option En} {e : En → Option PyData} {env : En} (enc : α → PyData) (f : α → PyData) (xs : List α)
    (h : ∀ x ∈ xs, ∃ env', t (enc x) env = some env' ∧ e env' = some (f x)) : compL t cYes e env (xs.map enc) = some (xs.map f) := by
  show compL t (fun _ => some true) e env (xs.map enc) = _
  rw [compL_eq enc (fun _ => true) f xs fun x hx => let ⟨v, h1, h2⟩ := h x hx; ⟨v, h1, rfl, fun _ => h2⟩, List.filter_eq_self.mpr fun _ _ => rfl]
theorem cap_ok {ds : List PyData} (h : ds.length ≤ 100000) : cap ds = some ds := if_pos h
structure ShN (n : Nat) (d : PyData) : Prop where
  a : d.canLay0 = true
  b : d.depth ≤ n
theorem ShN.mono {n m : Nat} {d : PyData} (h : ShN n d) (l : n ≤ m) : ShN m d := ⟨h.a, Nat.le_trans h.b l⟩
theorem shn_int (i : Int) : ShN 0 (.int i) := ⟨by simp [PyData.canLay0], by simp [PyData.depth]⟩
theorem shn_bool (i : Bool) : ShN 0 (.bool i) := ⟨by simp [PyData.canLay0], by simp [PyData.depth]⟩
theorem shn_none : ShN 0 .none := ⟨by simp [PyData.canLay0], by simp [PyData.depth]⟩
theorem shn_str {x : Str} (h : PyData.strOk x = true) : ShN 0 (.str x) := ⟨by simp [PyData.canLay0, h], by simp [PyData.depth]⟩
theorem shn_all {n : Nat} : ∀ {ds : List PyData}, (∀ d ∈ ds, ShN n d) → PyData.canLayAll0 ds = true ∧ PyData.depthAll ds ≤ n
  | [], _ => ⟨by simp [PyData.canLayAll0], by simp [PyData.depthAll]⟩
  | d :: ds, h => by
    obtain ⟨a, b⟩ := shn_all fun x hx => h x (List.mem_cons_of_mem d hx)
    have c := h d List.mem_cons_self
    have c1 := c.a
    have c2 := c.b
    refine ⟨by simp [PyData.canLayAll0, a, c1], ?_⟩
    simp only [PyData.depthAll]
    omega
theorem shn_list {n : Nat} {ds : List PyData} (h : ∀ d ∈ ds, ShN n d) : ShN (n + 1) (.list ds) := by
  obtain ⟨a, b⟩ := shn_all h
  exact ⟨by simp [PyData.canLay0, a], by simp only [PyData.depth]; omega⟩
theorem shn_tuple {n : Nat} {ds : List PyData} (h : ∀ d ∈ ds, ShN n d) : ShN (n + 1) (.tuple ds) := by
  obtain ⟨a, b⟩ := shn_all h
  exact ⟨by simp [PyData.canLay0, a], by simp only [PyData.depth]; omega⟩
theorem shn_ints (ns : List Int) : ∀ d ∈ ns.map PyData.int, ShN 0 d := fun d hd => by
  obtain ⟨i, _, rfl⟩ := List.mem_map.mp hd
  exact shn_int i
theorem ShN.ok {n : Nat} {d : PyData} (h : ShN n d) (l : n ≤ 64 := by decide) : SeqAt.shaped d = true := by
  show (d.canLay0 && decide (d.depth ≤ 64)) = true
  rw [h.a, decide_eq_true (Nat.le_trans h.b l)] <;> rfl
theorem pyEq_of {n m : Nat} {a b : PyData} (h1 : ShN n a) (h2 : ShN m b) (l1 : n ≤ 64 := by decide) (l2 : m ≤ 64 := by decide) : pyEq a b = some (.bool (PyData.eqv a b)) := if_pos ⟨h1.ok l1, h2.ok l2⟩
theorem pyNe_of {n m : Nat} {a b : PyData} (h1 : ShN n a) (h2 : ShN m b) (l1 : n ≤ 64 := by decide) (l2 : m ≤ 64 := by decide) : pyNe a b = some (.bool (!PyData.eqv a b)) := if_pos ⟨h1.ok l1, h2.ok l2⟩
theorem pyEq_str {a b : Str} (ha : PyData.strOk a = true) (hb : PyData.strOk b = true) : pyEq (.str a) (.str b) = some (.bool (a == b)) := by rw [pyEq_of (shn_str ha) (shn_str hb)]; simp [PyData.eqv]
theorem pyNe_str {a b : Str} (ha : PyData.strOk a = true) (hb : PyData.strOk b = true) : pyNe (.str a) (.str b) = some (.bool (!(a == b))) := by rw [pyNe_of (shn_str ha) (shn_str hb)]; simp [PyData.eqv]
@[simp] theorem pyEq_int (a b : Int) : pyEq (.int a) (.int b) = some (.bool (a == b)) := by rw [pyEq_of (shn_int a) (shn_int b)]; simp [PyData.eqv]
@[simp] theorem pyNe_int (a b : Int) : pyNe (.int a) (.int b) = some (.bool (!(a == b))) := by rw [pyNe_of (shn_int a) (shn_int b)]; simp [PyData.eqv]
theorem ok_ps (p : Ps) : PyData.strOk p.s = true := by cases p <;> decide +kernel
theorem ok_sp (p : Bool) : PyData.strOk (spS p) = true := by cases p <;> decide +kernel
theorem ok_be (p : Bool) : PyData.strOk (beS p) = true := by cases p <;> decide +kernel
@[simp] theorem eq_any (p : Ps) : pyEq (.str p.s) (.str "any") = some (.bool (decide (p = .any))) := by
  rw [pyEq_str (ok_ps p) (by decide +kernel)]
  refine congrArg (fun z => some (PyData.bool z)) ?_
  cases p <;> decide +kernel
@[simp] theorem eq_loose (p : Ps) : pyEq (.str p.s) (.str "loose") = some (.bool (decide (p = .loose))) := by
  rw [pyEq_str (ok_ps p) (by decide +kernel)]
  refine congrArg (fun z => some (PyData.bool z)) ?_
  cases p <;> decide +kernel
@[simp] theorem eq_strict (p : Ps) : pyEq (.str p.s) (.str "strict") = some (.bool (decide (p = .strict))) := by
  rw [pyEq_str (ok_ps p) (by decide +kernel)]
  refine congrArg (fun z => some (PyData.bool z)) ?_
  cases p <;> decide +kernel
@[simp] theorem eq_among (p : Ps) : pyEq (.str p.s) (.str "among") = some (.bool (decide (p = .among))) := by
  rw [pyEq_str (ok_ps p) (by decide +kernel)]
  refine congrArg (fun z => some (PyData.bool z)) ?_
  cases p <;> decide +kernel
@[simp] theorem ne_among (p : Ps) : pyNe (.str p.s) (.str "among") = some (.bool (!decide (p = .among))) := by
  rw [pyNe_str (ok_ps p) (by decide +kernel)]
  refine congrArg (fun z => some (PyData.bool z)) ?_
  cases p <;> decide +kernel
@[simp] theorem eq_each (b : Bool) : pyEq (.str (spS b)) (.str "each") = some (.bool b) := by
  rw [pyEq_str (ok_sp b) (by decide +kernel)]
  refine congrArg (fun z => some (PyData.bool z)) ?_
  cases b <;> decide +kernel
@[simp] theorem eq_whole (b : Bool) : pyEq (.str (spS b)) (.str "whole") = some (.bool (!b)) := by
  rw [pyEq_str (ok_sp b) (by decide +kernel)]
  refine congrArg (fun z => some (PyData.bool z)) ?_
  cases b <;> decide +kernel
@[simp] theorem eq_first (b : Bool) : pyEq (.str (beS b)) (.str "first") = some (.bool b) := by
  rw [pyEq_str (ok_be b) (by decide +kernel)]
  refine congrArg (fun z => some (PyData.bool z)) ?_
  cases b <;> decide +kernel
@[simp] theorem ne_first (b : Bool) : pyNe (.str (beS b)) (.str "first") = some (.bool (!b)) := by
  rw [pyNe_str (ok_be b) (by decide +kernel)]
  refine congrArg (fun z => some (PyData.bool z)) ?_
  cases b <;> decide +kernel
@[simp] theorem eq_all (b : Bool) : pyEq (.str (beS b)) (.str "all") = some (.bool (!b)) := by
  rw [pyEq_str (ok_be b) (by decide +kernel)]
  refine congrArg (fun z => some (PyData.bool z)) ?_
  cases b <;> decide +kernel
theorem eqv_nil (ds : List PyData) : PyData.eqv (.list ds) (.list []) = ds.isEmpty := by cases ds <;> simp [PyData.eqv, PyData.eqvAll]
theorem eqv_nilT (ds : List PyData) : PyData.eqv (.tuple ds) (.tuple []) = ds.isEmpty := by cases ds <;> simp [PyData.eqv, PyData.eqvAll]
theorem pyNe_nil {n : Nat} {ds : List PyData} (h : ShN n (.list ds)) (l : n ≤ 64 := by decide) : pyNe (.list ds) (.list []) = some (.bool (!ds.isEmpty)) := by
  rw [pyNe_of h (shn_list (n := 0) (ds := []) (fun _ z => nomatch z)) l, eqv_nil]
theorem pyEq_nil {n : Nat} {ds : List PyData} (h : ShN n (.list ds)) (l : n ≤ 64 := by decide) : pyEq (.list ds) (.list []) = some (.bool ds.isEmpty) := by
  rw [pyEq_of h (shn_list (n := 0) (ds := []) (fun _ z => nomatch z)) l, eqv_nil]
theorem pyEq_nilT {n : Nat} {ds : List PyData} (h : ShN n (.tuple ds)) (l : n ≤ 64 := by decide) : pyEq (.tuple ds) (.tuple []) = some (.bool ds.isEmpty) := by
  rw [pyEq_of h (shn_tuple (n := 0) (ds := []) (fun _ z => nomatch z)) l, eqv_nilT]
@[simp] theorem isT_tuple (ds : List PyData) : isT "tuple" (.tuple ds) = some true := by show kitB "tuple" "tuple" = _; rfl
@[simp] theorem isT_int (i : Int) : isT "int" (.int i) = some true := by show kitB "int" "int" = _; rfl
@[simp] theorem isT_intB (i : Int) : isT "bool" (.int i) = some false := by show kitB "int" "bool" = _; decide +kernel
@[simp] theorem isT_str (i : Str) : isT "str" (.str i) = some true := by show kitB "str" "str" = _; rfl

/-! ### the small defs -/
theorem ev_is_integer (v lo hi : Int) : m_is_integer [.int v, .int lo, .int hi] = some (.bool (decide (lo ≤ v) && decide (v ≤ hi))) := by
  rw [c_is_integer]
  by_cases h : lo ≤ v <;> simp [g_is_integer, h]
end Sb
end
section
set_option Elab.async false
set_option linter.all false
set_option maxRecDepth 100000
set_option maxHeartbeats 4000000
/-! Ev2: right ways and right logs pass; the steps of a kind; times. -/
namespace Sb
open PySem PySem.Spec L2
open PyProof.Rows hiding St

@[simp] theorem cut_1 {α : Type} (xs : List α) : cutL xs (some 1) none = xs.tail := by
  unfold cutL
  rw [show HT.sIx xs.length 0 (some 1) = min 1 xs.length from HT.sIx_nat xs.length 0 1, HT.sIx_none]
  cases xs with
  | nil => rfl
  | cons x r =>
    rw [show min 1 (x :: r).length = 1 by rw [List.length_cons]; omega]
    show List.take ((x :: r).length - 1) r = r
    rw [List.length_cons, Nat.add_sub_cancel, List.take_length]
theorem cut_to {α : Type} (xs : List α) (n : Nat) (h : n ≤ xs.length) : cutL xs none (some (n : Int)) = xs.take n := by
  unfold cutL
  rw [HT.sIx_none, show HT.sIx xs.length xs.length (some (n : Int)) = min n xs.length from HT.sIx_nat xs.length _ n, Nat.min_eq_left h]
  simp
theorem zipD_map {α β : Type} (f : α → PyData) (g : β → PyData) (a : List α) (b : List β) : zipD (a.map f) (b.map g) = (a.zip b).map fun p => .tuple [f p.1, g p.2] := by
  unfold zipD List.zip
  rw [List.zipWith_map, List.map_zipWith]
theorem zipD_tail {α : Type} (f : α → PyData) (a : List α) : zipD (a.map f) (a.map f).tail = (a.zip a.tail).map fun p => .tuple [f p.1, f p.2] := by
  rw [← List.map_tail, zipD_map]
theorem enum_map {α : Type} (f : α → PyData) : ∀ (k : Nat) (a : List α), enumFrom k (a.map f) = (a.zipIdx k).map fun p => .tuple [.int (p.2 : Nat), f p.1]
  | _, [] => rfl
  | k, x :: r => by
    show PyData.tuple [.int (k : Nat), f x] :: enumFrom (k + 1) (r.map f) = _
    rw [enum_map f (k + 1) r, List.zipIdx_cons, List.map_cons]
/-- each less than the next -/
def asc (ks : List Int) : Bool := (ks.zip ks.tail).all fun p => decide (p.1 < p.2)
theorem asc_of : ∀ {ks : List Int}, ks.Pairwise (· < ·) → asc ks = true
  | [], _ => rfl
  | [_], _ => rfl
  | x :: y :: r, h => by
    have h' := List.pairwise_cons.mp h
    have ih := asc_of h'.2
    show (decide (x < y) && asc (y :: r)) = true
    rw [ih, Bool.and_true, decide_eq_true_eq]
    exact h'.1 y List.mem_cons_self
theorem asc_pw : ∀ {ks : List Int}, asc ks = true → ks.Pairwise (· < ·)
  | [], _ => .nil
  | [_], _ => List.pairwise_singleton _ _
  | x :: y :: r, h => by
    have h' : (decide (x < y) && asc (y :: r)) = true := h
    rw [Bool.and_eq_true, decide_eq_true_eq] at h'
    have ih := asc_pw h'.2
    refine List.pairwise_cons.mpr ⟨fun z hz => ?_, ih⟩
    rcases List.mem_cons.mp hz with rfl | hz
    · exact h'.1
    · exact Int.lt_trans h'.1 ((List.pairwise_cons.mp ih).1 z hz)
theorem ev_are_kinds (ks : List Int) (h0 : ks ≠ []) (h1 : ks.Pairwise (· < ·)) (h2 : ∀ x ∈ ks, 0 ≤ x ∧ x ≤ 4) (hl : ks.length ≤ 100) : m_are_kinds [eKs ks] = some (.bool true) := by
  have c1 : compL (tg1 1) cYes (eF m_is_integer (aC (eV 1) (aC (eC (.int 0)) (aC (eC (.int 4)) aN)))) [some (eKs ks), none, none] (ks.map .int) = some (ks.map fun x => .bool (decide (0 ≤ x) && decide (x ≤ 4))) :=
    compL_all .int (fun x => .bool (decide (0 ≤ x) && decide (x ≤ 4))) ks fun x hx => ⟨_, rfl, by simp [ev_is_integer]⟩
  have c2 : compL (tgN [1, 2]) cYes (e2 pyLt (eV 1) (eV 2)) [some (eKs ks), none, none] ((ks.zip ks.tail).map fun p => .tuple [.int p.1, .int p.2]) = some ((ks.zip ks.tail).map fun p => .bool (decide (p.1 < p.2))) :=
    compL_all _ _ _ fun x hx => ⟨_, rfl, by simp⟩
  have a1 : (ks.all fun x => decide (0 ≤ x) && decide (x ≤ 4)) = true := List.all_eq_true.mpr fun x hx => by simp [(h2 x hx).1, (h2 x hx).2]
  have a2 : (ks.zip ks.tail).all (fun p => decide (p.1 < p.2)) = true := asc_of h1
  have e0 : pyEq (.tuple (ks.map .int)) (.tuple []) = some (.bool false) := by
    rw [pyEq_nilT (shn_tuple (shn_ints ks))]
    cases ks with
    | nil => exact absurd rfl h0
    | cons x r => rfl
  have k1 : cap (ks.map PyData.int) = some (ks.map PyData.int) := cap_ok (by rw [List.length_map]; omega)
  have k2 : cap ((ks.zip ks.tail).map fun p => PyData.tuple [.int p.1, .int p.2]) = some ((ks.zip ks.tail).map fun p => .tuple [.int p.1, .int p.2]) := cap_ok (by simp; omega)
  rw [c_are_kinds]
  unfold eKs at c1 c2 ⊢
  simp [g_are_kinds, e0, k1, c1, a1, zipD_tail, k2, c2, a2]
theorem ev_are_steps (w : Way) (ok : w.Ok) : m_are_steps [.tuple (w.st.map eKs)] = some (.bool true) := by
  have c1 : compL (tg1 1) cYes (eF m_are_kinds (aC (eV 1) aN)) [some (.tuple (w.st.map eKs)), none] (w.st.map eKs) = some (w.st.map fun _ => .bool true) :=
    compL_all eKs (fun _ => .bool true) w.st fun x hx => ⟨_, rfl, by
      obtain ⟨a, b, c, d⟩ := ok.ks x hx
      simp [ev_are_kinds x a b c d]⟩
  have k1 : cap (w.st.map eKs) = some (w.st.map eKs) := cap_ok (by have := ok.s4; rw [List.length_map]; omega)
  have a1 : (1 : Int) ≤ w.st.length := by have := ok.s1; omega
  have a2 : (w.st.length : Int) ≤ 4 := by have := ok.s4; omega
  have p1 : pyAll [.list (w.st.map fun _ => .bool true)] = some (.bool true) := by
    rw [pyAll_m (fun _ => true)]
    simp
  rw [c_are_steps]
  simp [g_are_steps, k1, c1, p1, a1, a2]
theorem ev_is_word_ps (p : Ps) : m_is_word [.str p.s, .tuple [.str "loose", .str "among", .str "strict", .str "any"]] = some (.bool true) := by
  rw [c_is_word]
  cases p <;> simp [g_is_word, pyIn] <;> decide +kernel
theorem ev_is_word_sp (b : Bool) : m_is_word [.str (spS b), .tuple [.str "whole", .str "each"]] = some (.bool true) := by
  rw [c_is_word]
  cases b <;> simp [g_is_word, pyIn] <;> decide +kernel
theorem ev_is_word_sp1 : m_is_word [.str (spS false), .tuple [.str "whole"]] = some (.bool true) := by
  rw [c_is_word]
  simp [g_is_word, pyIn]
  decide +kernel
theorem ev_is_word_be (b : Bool) : m_is_word [.str (beS b), .tuple [.str "all", .str "first"]] = some (.bool true) := by
  rw [c_is_word]
  cases b <;> simp [g_is_word, pyIn] <;> decide +kernel
theorem ev_is_word_be1 : m_is_word [.str (beS false), .tuple [.str "all"]] = some (.bool true) := by
  rw [c_is_word]
  simp [g_is_word, pyIn]
  decide +kernel
theorem ev_wrong_place (w : Way) (ok : w.Ok) : m_wrong_place [eW w] = some .none := by
  have a0 : decide (0 ≤ w.wi) = true := decide_eq_true ok.w0
  have a1 : decide (w.wi ≤ 8) = true := decide_eq_true ok.w8
  rw [c_wrong_place]
  unfold eW
  by_cases h : w.ps = .any
  · obtain ⟨h1, h2⟩ := ok.an h
    simp [g_wrong_place, ev_are_steps w ok, ev_is_word_ps, h, h1, h2, ev_is_word_sp1, ev_is_word_be1, ev_is_integer, ok.w0, ok.w8]
  · simp [g_wrong_place, ev_are_steps w ok, ev_is_word_ps, h, ev_is_word_sp, ev_is_word_be, ev_is_integer, ok.w0, ok.w8]
theorem ev_need_way (w : Way) (ok : w.Ok) : m_need_way [eW w] = some (eW w) := by
  rw [c_need_way]
  simp [g_need_way, ev_wrong_place w ok]
theorem ev_is_event (e : Int × Int) (h : (0 ≤ e.1 ∧ e.1 ≤ 10 ^ 30) ∧ 0 ≤ e.2 ∧ e.2 ≤ 4) : m_is_event [eEv e] = some (.bool true) := by
  have h1 : e.1 ≤ 1000000000000000000000000000000 := h.1.2
  rw [c_is_event]
  simp [g_is_event, eEv, ev_is_integer, h.1.1, h1, h.2.1, h.2.2]
theorem ev_need_log (l : Log) (ok : LogOk l) : m_need_log [eL l] = some (eL l) := by
  have c1 : compL (tg1 1) cYes (eF m_is_event (aC (eV 1) aN)) [some (eL l), none] (l.map eEv) = some (l.map fun _ => .bool true) :=
    compL_all eEv (fun _ => .bool true) l fun x hx => ⟨_, rfl, by simp [ev_is_event x (ok.gk x hx)]⟩
  have k1 : cap (l.map eEv) = some (l.map eEv) := cap_ok (by have := ok.n; rw [List.length_map]; omega)
  have p1 : pyAll [.list (l.map fun _ => .bool true)] = some (.bool true) := by
    rw [pyAll_m (fun _ => true)]
    simp
  rw [c_need_log]
  unfold eL at c1 ⊢
  simp [g_need_log, k1, c1, p1]
/-- the steps, from 1 on, that have a kind -/
def stepsIn (w : Way) (k : Int) : List Int := ((w.st.zipIdx).filter fun p => decide (k ∈ p.1)).map fun p => (p.2 : Nat) + 1
theorem inD_ints (k : Int) (ks : List Int) : inD (.int k) (ks.map .int) = decide (k ∈ ks) := by
  unfold inD
  rw [List.any_map]
  induction ks with
  | nil => rfl
  | cons x r ih =>
    rw [List.any_cons, ih]
    by_cases h : x = k
    · subst h
      simp [PyData.eqv]
    · have h' : k ≠ x := fun e => h e.symm
      simp [PyData.eqv, h, h']
theorem all_scd (ks : List Int) : (ks.map PyData.int).all scd = true := by
  rw [List.all_map, List.all_eq_true]
  exact fun _ _ => rfl
@[simp] theorem pyIn_ints (k : Int) (ks : List Int) (neg : Bool) : pyIn neg (.int k) (.tuple (ks.map .int)) = some (.bool (if neg then !decide (k ∈ ks) else decide (k ∈ ks))) := by
  show (if scd (.int k) = true ∧ (ks.map PyData.int).all scd = true then some (PyData.bool (if neg then !inD (.int k) (ks.map .int) else inD (.int k) (ks.map .int))) else none) = _
  rw [if_pos ⟨rfl, all_scd ks⟩, inD_ints]
@[simp] theorem pyIn_intsL (k : Int) (ks : List Int) (neg : Bool) : pyIn neg (.int k) (.list (ks.map .int)) = some (.bool (if neg then !decide (k ∈ ks) else decide (k ∈ ks))) := pyIn_ints k ks neg
theorem ev_steps_in (w : Way) (h : w.st.length ≤ 4) (k : Int) : m_steps_in [eW w, .int k] = some (.list ((stepsIn w k).map .int)) := by
  have k1 : cap ((w.st.zipIdx).map fun p => PyData.tuple [.int (p.2 : Nat), eKs p.1]) = some ((w.st.zipIdx).map fun p => PyData.tuple [.int (p.2 : Nat), eKs p.1]) := cap_ok (by simp; omega)
  have c1 : compL (tgN [2, 3]) (fT (e2 (pyIn false) (eV 1) (eV 3))) (e2 pyAdd (eV 2) (eC (.int 1))) [some (eW w), some (.int k), none, none] ((w.st.zipIdx : List (List Int × Nat)).map fun p => PyData.tuple [.int (p.2 : Nat), eKs p.1])
      = some (((w.st.zipIdx : List (List Int × Nat)).filter fun p => decide (k ∈ p.1)).map fun p => .int ((p.2 : Nat) + 1)) :=
    compL_eq (α := List Int × Nat) _ (fun p => decide (k ∈ p.1)) (fun p => .int ((p.2 : Nat) + 1)) _ fun x hx => ⟨_, rfl, by simp [eKs], fun _ => by simp⟩
  rw [c_steps_in]
  unfold eW at c1 ⊢
  simp [g_steps_in, enum_map, k1, c1, stepsIn]
end Sb
end
section
set_option Elab.async false
set_option linter.all false
set_option maxRecDepth 100000
set_option maxHeartbeats 4000000
/-! Ev3: times, standings. -/
namespace Sb
open PySem PySem.Spec L2
open PyProof.Rows hiding St

theorem loop_fold {α β : Type} {t : PyData → List Sl → Option (List Sl)} {g : Sm} (enc : α → PyData) (R : β → List Sl → Prop) (f : β → α → β) : ∀ (xs : List α) (b : β) (env : List Sl),
    (∀ b x env, x ∈ xs → R b env → ∃ e1 e2, t (enc x) env = some e1 ∧ g e1 = some (.nx e2) ∧ R (f b x) e2) → R b env → ∃ env', loopS t g (xs.map enc) env = some (.nx env') ∧ R (xs.foldl f b) env'
  | [], b, env, _, r => ⟨env, rfl, r⟩
  | x :: xs, b, env, h, r => by
    obtain ⟨e1, e2, h1, h2, h3⟩ := h b x env List.mem_cons_self r
    obtain ⟨e3, h4, h5⟩ := loop_fold enc R f xs (f b x) e2 (fun b y e hy q => h b y e (List.mem_cons_of_mem _ hy) q) h3
    refine ⟨e3, ?_, h5⟩
    rw [List.map_cons, loopS_cons, h1, Option.bind_some, h2, Option.bind_some]
    exact h4

/-! ### times -/
def timesFrom : Int → Log → List Int
  | _, [] => []
  | t, e :: r => (t + e.1) :: timesFrom (t + e.1) r
def times (l : Log) : List Int := timesFrom 0 l
theorem times_fold : ∀ (l : Log) (t : Int) (f : List Int), l.foldl (fun (p : List Int × Int) e => (p.1 ++ [p.2 + e.1], p.2 + e.1)) (f, t) = (f ++ timesFrom t l, (l.foldl (fun (p : List Int × Int) e => (p.1 ++ [p.2 + e.1], p.2 + e.1)) (f, t)).2)
  | [], t, f => by simp [timesFrom]
  | e :: r, t, f => by
    rw [List.foldl_cons, times_fold r (t + e.1) (f ++ [t + e.1])]
    simp [timesFrom]
theorem timesFrom_length : ∀ (l : Log) (t : Int), (timesFrom t l).length = l.length
  | [], _ => rfl
  | e :: r, t => by
    show (timesFrom (t + e.1) r).length + 1 = r.length + 1
    rw [timesFrom_length r]
theorem times_length (l : Log) : (times l).length = l.length := timesFrom_length l 0
theorem fold_len : ∀ (l : Log) (p : List Int × Int), (l.foldl (fun (p : List Int × Int) e => (p.1 ++ [p.2 + e.1], p.2 + e.1)) p).1.length = p.1.length + l.length
  | [], p => rfl
  | e :: r, p => by
    rw [List.foldl_cons, fold_len r]
    simp
    omega
theorem ev_times_in (l : Log) (h : l.length ≤ 1000) : m_times_in [eL l] = some (.list ((times l).map .int)) := by
  have key : ∀ (l2 : Log) (p : List Int × Int) (y z : Sl) (d0 : PyData), p.1.length + l2.length ≤ 1000 → ∃ y' z', loopS (sgN [3, 4]) (seqS (augS 2 (eV 3)) (seqS (appS 1 (eV 2)) nextS)) (l2.map eEv) [.dat d0, .own (.list (p.1.map .int)), .dat (.int p.2), y, z]
      = some (.nx [.dat d0, .own (.list ((l2.foldl (fun (p : List Int × Int) e => (p.1 ++ [p.2 + e.1], p.2 + e.1)) p).1.map .int)), .dat (.int (l2.foldl (fun (p : List Int × Int) e => (p.1 ++ [p.2 + e.1], p.2 + e.1)) p).2), y', z']) := by
    intro l2
    induction l2 with
    | nil => exact fun p y z d0 _ => ⟨y, z, rfl⟩
    | cons e r ih =>
      intro p y z d0 hp
      rw [List.length_cons] at hp
      obtain ⟨y', z', h2⟩ := ih (p.1 ++ [p.2 + e.1], p.2 + e.1) (.dat (.int e.1)) (.dat (.int e.2)) d0 (by simp; omega)
      refine ⟨y', z', ?_⟩
      rw [List.map_cons, loopS_cons, List.foldl_cons, ← h2]
      simp [eEv, show p.1.length < 100000 by omega]
  obtain ⟨y', z', h2⟩ := key l ([], 0) .no .no (eL l) (by simpa using h)
  rw [c_times_in]
  unfold eL at h2 ⊢
  rw [times_fold] at h2
  simp only [List.map_nil, List.nil_append] at h2
  simp [g_times_in, h2, times]

/-! ### standings -/
abbrev Age := Option Int
def eA : Age → PyData
  | none => .none
  | some i => .int i
structure Stg where
  best : Int
  begun : Bool
  ages : List Age
def eAs (a : List Age) : PyData := .tuple (a.map eA)
def eS (s : Stg) : PyData := .tuple [.int s.best, .bool s.begun, eAs s.ages]
def firstS (w : Way) : Stg := ⟨0, false, List.replicate w.st.length none⟩
theorem ev_first_in (w : Way) (h1 : 1 ≤ w.st.length) (h4 : w.st.length ≤ 4) : m_first_in [eW w] = some (eS (firstS w)) := by
  have a : (1 : Int) ≤ w.st.length ∧ (w.st.length : Int) ≤ 1000 := by omega
  rw [c_first_in]
  simp [g_first_in, eW, pyRepT, a, eS, eAs, firstS, eA]
def growA (g W : Int) (a : Age) : Age := a.bind fun x => if x + g > W then none else some (x + g)
@[simp] theorem isN_A (a : Age) : pyIsN (eA a) .none = some (.bool a.isNone) := by cases a <;> rfl
@[simp] theorem notN_A (a : Age) : pyNotN (eA a) .none = some (.bool a.isSome) := by cases a <;> rfl
theorem ev_grown (a : List Age) (g W : Int) (h : a.length ≤ 100) : m_grown [eAs a, .int g, .int W] = some (eAs (a.map (growA g W))) := by
  have k1 : cap (a.map eA) = some (a.map eA) := cap_ok (by rw [List.length_map]; omega)
  have c1 : compL (tg1 3) cYes (eIf (fOr (fT (e2 pyIsN (eV 3) (eC .none))) (fT (e2 pyGt (e2 pyAdd (eV 3) (eV 1)) (eV 2)))) (eC .none) (e2 pyAdd (eV 3) (eV 1))) [some (eAs a), some (.int g), some (.int W), none] (a.map eA) = some (a.map fun x => eA (growA g W x)) :=
    compL_all eA _ a fun x hx => ⟨_, rfl, by
      cases x with
      | none => simp [growA, eA]
      | some i => by_cases q : W < i + g <;> simp [growA, eA, q, pyIsN, asB]⟩
  rw [c_grown]
  unfold eAs at c1 ⊢
  simp [g_grown, k1, c1]
def lesserA : Age → Age → Age
  | none, b => b
  | some a, none => some a
  | some a, some b => some (min a b)
theorem ev_lesser (a b : Age) : m_lesser [eA a, eA b] = some (eA (lesserA a b)) := by
  rw [c_lesser]
  cases a with
  | none => cases b <;> simp [g_lesser, lesserA, eA]
  | some i =>
    cases b with
    | none => simp [g_lesser, lesserA, eA]
    | some j =>
      have e : (if j < i then j else i) = min i j := by
        rw [Int.min_def]
        split <;> split <;> omega
      simp [g_lesser, lesserA, eA, pyMin2, e]
/-- what comes to step j (from 0) -/
def cameAt (w : Way) (begun : Bool) (ages : List Age) (j : Nat) : Age :=
  if j = 0 then (if w.fi = true ∧ begun = true then none else some 0) else ((ages[j - 1]?).join).map fun a => if w.ea = true then 0 else a
def cameF (w : Way) (begun : Bool) (ages : List Age) (k : Int) : List Age := (w.st.zipIdx).map fun p => if k ∈ p.1 then cameAt w begun ages p.2 else none
def cStep (w : Way) (begun : Bool) (ages : List Age) (f : List PyData) (j : Nat) : List PyData := if j = 0 ∨ (cameAt w begun ages j).isSome = true then f.set j (eA (cameAt w begun ages j)) else f
theorem cStep_len (w : Way) (begun : Bool) (ages : List Age) : ∀ (js : List Nat) (f : List PyData), (js.foldl (cStep w begun ages) f).length = f.length
  | [], f => rfl
  | j :: js, f => by
    rw [List.foldl_cons, cStep_len w begun ages js]
    unfold cStep
    split <;> simp
theorem cStep_get (w : Way) (begun : Bool) (ages : List Age) (i : Nat) : ∀ (js : List Nat) (f : List PyData), (i ∈ js → f[i]? = some .none ∨ f[i]? = some (eA (cameAt w begun ages i))) →
    (js.foldl (cStep w begun ages) f)[i]? = if i ∈ js then (if i < f.length then some (eA (cameAt w begun ages i)) else none) else f[i]?
  | [], f, _ => by simp
  | j :: js, f, h => by
    have hl : (cStep w begun ages f j).length = f.length := by
      unfold cStep
      split <;> simp
    by_cases hj : i = j
    · subst hj
      have hf := h List.mem_cons_self
      have hi : i < f.length := by
        rcases hf with q | q <;> exact (List.getElem?_eq_some_iff.mp q).1
      have e : (cStep w begun ages f i)[i]? = some (eA (cameAt w begun ages i)) := by
        unfold cStep
        split
        · rw [List.getElem?_set_self hi]
        · rename_i hc
          rcases hf with q | q
          · have : cameAt w begun ages i = none := by
              cases z : cameAt w begun ages i with
              | none => rfl
              | some a => exact absurd (.inr (by rw [z]; rfl)) hc
            rw [q, this]
            rfl
          · exact q
      rw [List.foldl_cons, cStep_get w begun ages i js _ fun _ => .inr e, hl, e]
      simp [hi]
    · have e : (cStep w begun ages f j)[i]? = f[i]? := by
        unfold cStep
        split
        · rw [List.getElem?_set_ne (fun z => hj z.symm)]
        · rfl
      rw [List.foldl_cons, cStep_get w begun ages i js _ (fun hi => by rw [e]; exact h (List.mem_cons_of_mem _ hi)), hl, e]
      simp [hj]
/-- the places, from 0, of the steps that have a kind -/
def stepIx (w : Way) (k : Int) : List Nat := ((w.st.zipIdx).filter fun p => decide (k ∈ p.1)).map (·.2)
theorem stepsIn_ix (w : Way) (k : Int) : stepsIn w k = (stepIx w k).map fun j => ((j : Nat) : Int) + 1 := by
  unfold stepsIn stepIx
  rw [List.map_map]
  rfl
theorem mem_ix (w : Way) (k : Int) (j : Nat) : j ∈ stepIx w k ↔ ∃ ks, w.st[j]? = some ks ∧ k ∈ ks := by
  unfold stepIx
  rw [List.mem_map]
  constructor
  · rintro ⟨⟨ks, i⟩, h, rfl⟩
    obtain ⟨h1, h2⟩ := List.mem_filter.mp h
    rw [List.mem_zipIdx_iff_getElem?] at h1
    exact ⟨ks, h1, by simpa using h2⟩
  · rintro ⟨ks, h1, h2⟩
    exact ⟨(ks, j), List.mem_filter.mpr ⟨by rw [List.mem_zipIdx_iff_getElem?]; exact h1, by simpa using h2⟩, rfl⟩
theorem ev_came (w : Way) (begun : Bool) (ages : List Age) (k : Int) (h4 : w.st.length ≤ 4) (ha : ages.length = w.st.length) :
    m_came [eW w, .bool begun, eAs ages, .int k] = some (.list ((cameF w begun ages k).map eA)) := by
  have key : ∀ (js : List Nat) (f : List PyData) (y : PyData) (z : Sl), (∀ j ∈ js, j < w.st.length) → f.length = w.st.length → ∃ z', loopS (sg1 6)
      (seqS (ifS (fT (e2 pyEq (eV 6) (eC (.int 1))))
        (seqS (stoS 4 (eC (.int 0)) (eIf (fAnd (fT (e2 pyEq (e2 pyIx (eV 0) (eC (.int 4))) (eC (.str "first")))) (fT (eV 1))) (eC .none) (eC (.int 0)))) nextS)
        (seqS (ifS (fT (e2 pyNotN (e2 pyIx (eV 2) (e2 pySub (eV 6) (eC (.int 2)))) (eC .none)))
          (seqS (stoS 4 (e2 pySub (eV 6) (eC (.int 1))) (eIf (fT (e2 pyEq (e2 pyIx (eV 0) (eC (.int 2))) (eC (.str "whole")))) (e2 pyIx (eV 2) (e2 pySub (eV 6) (eC (.int 2)))) (eC (.int 0)))) nextS) nextS) nextS)) nextS)
      (js.map fun j => .int ((j : Nat) + 1)) [.dat (eW w), .dat (.bool begun), .dat (eAs ages), .dat (.int k), .own (.list f), .dat y, z]
      = some (.nx [.dat (eW w), .dat (.bool begun), .dat (eAs ages), .dat (.int k), .own (.list (js.foldl (cStep w begun ages) f)), .dat y, z']) := by
    intro js
    induction js with
    | nil => exact fun f y z _ _ => ⟨z, rfl⟩
    | cons j r ih =>
      intro f y z hj hf
      have hj0 := hj j List.mem_cons_self
      obtain ⟨z', h2⟩ := ih (cStep w begun ages f j) y (.dat (.int ((j : Nat) + 1))) (fun i hi => hj i (List.mem_cons_of_mem _ hi)) (by
        have := cStep_len w begun ages [j] f
        simp only [List.foldl_cons, List.foldl_nil] at this
        rw [this, hf])
      refine ⟨z', ?_⟩
      rw [List.map_cons, loopS_cons, List.foldl_cons, ← h2]
      cases j with
      | zero =>
        have i0 : ixN f.length 0 = some 0 := by
          unfold ixN
          rw [if_pos (by omega), if_pos (by omega)] <;> rfl
        cases hfi : w.fi <;> cases begun <;> simp [eW, hfi, i0, cStep, cameAt, eA]
      | succ j =>
        have e1 : ((j + 1 : Nat) : Int) + 1 - 2 = (j : Nat) := by omega
        have e2 : ((j + 1 : Nat) : Int) + 1 - 1 = (j + 1 : Nat) := by omega
        have e3 : ¬ (((j : Nat) : Int) + 1 + 1 = 1) := by omega
        have i1 : ixN f.length ((j : Nat) + 1 : Int) = some (j + 1) := by
          unfold ixN
          rw [if_pos (by omega), if_pos (by omega)]
          congr 1
        have hjl : j < ages.length := by omega
        have ea : ages[j]? = some ages[j] := List.getElem?_eq_getElem hjl
        have e4 : ((j : Nat) : Int) + 1 + 1 - 2 = (j : Nat) := by omega
        have e5 : ((j : Nat) : Int) + 1 + 1 - 1 = (j : Nat) + 1 := by omega
        cases hq : ages[j] with
        | none =>
          rw [hq] at ea
          simp [eW, eAs, e3, e4, e5, ea, eA, cStep, cameAt]
        | some a =>
          rw [hq] at ea
          cases hea : w.ea <;> simp [eW, eAs, e3, e4, e5, ea, eA, cStep, cameAt, hea, i1]
  obtain ⟨z', h2⟩ := key (stepIx w k) (List.replicate w.st.length .none) (.list ((stepsIn w k).map .int)) .no (fun j hj => by
    obtain ⟨ks, h1, _⟩ := (mem_ix w k j).mp hj
    exact (List.getElem?_eq_some_iff.mp h1).1) (by simp)
  have fin : (stepIx w k).foldl (cStep w begun ages) (List.replicate w.st.length .none) = (cameF w begun ages k).map eA := by
    refine List.ext_getElem? fun i => ?_
    rw [cStep_get w begun ages i _ _ fun hi => .inl (by
      obtain ⟨ks, h1, _⟩ := (mem_ix w k i).mp hi
      rw [List.getElem?_replicate, if_pos (List.getElem?_eq_some_iff.mp h1).1])]
    rw [List.length_replicate, List.getElem?_map]
    unfold cameF
    rw [List.getElem?_map, List.getElem?_zipIdx, List.getElem?_replicate]
    by_cases hi : i < w.st.length
    · rw [List.getElem?_eq_getElem hi]
      by_cases hk : k ∈ w.st[i]
      · have : i ∈ stepIx w k := (mem_ix w k i).mpr ⟨_, List.getElem?_eq_getElem hi, hk⟩
        simp [this, hi, hk]
      · have : i ∉ stepIx w k := fun z => by
          obtain ⟨ks, h1, h2⟩ := (mem_ix w k i).mp z
          rw [List.getElem?_eq_getElem hi] at h1
          cases h1
          exact hk h2
        simp [this, hi, hk, eA]
    · rw [List.getElem?_eq_none (by omega)]
      simp [hi]
  rw [fin] at h2
  have em : (stepsIn w k).map PyData.int = (stepIx w k).map fun j => .int ((j : Nat) + 1) := by
    rw [stepsIn_ix, List.map_map]
    rfl
  have rr : (0 : Int) ≤ w.st.length ∧ (w.st.length : Int) ≤ 1000 := by omega
  rw [em] at h2
  have hs := ev_steps_in w h4 k
  rw [em] at hs
  rw [c_came]
  unfold eW at h2 hs ⊢
  simp [g_came, hs, pyRep, rr, h2]
end Sb
end
section
set_option Elab.async false
set_option linter.all false
set_option maxRecDepth 100000
set_option maxHeartbeats 4000000
/-! Ev4: the standing behind an event, behind all; level. -/
namespace Sb
open PySem PySem.Spec L2
open PyProof.Rows hiding St

@[simp] theorem eW_0 (w : Way) : pyIx (eW w) (.int 0) = some (.tuple (w.st.map eKs)) := by simp [eW]
@[simp] theorem eW_1 (w : Way) : pyIx (eW w) (.int 1) = some (.str w.ps.s) := by simp [eW]
@[simp] theorem eW_2 (w : Way) : pyIx (eW w) (.int 2) = some (.str (spS w.ea)) := by simp [eW]
@[simp] theorem eW_3 (w : Way) : pyIx (eW w) (.int 3) = some (.int w.wi) := by simp [eW]
@[simp] theorem eW_4 (w : Way) : pyIx (eW w) (.int 4) = some (.str (beS w.fi)) := by simp [eW]
@[simp] theorem items_eAs (a : List Age) : items (eAs a) = some (a.map eA) := rfl
@[simp] theorem items_eL (l : Log) : items (eL l) = some (l.map eEv) := rfl
@[simp] theorem sgN_eS (is : List Nat) (s : Stg) (sl : List Sl) : sgN is (eS s) sl = sgs is [.int s.best, .bool s.begun, eAs s.ages] sl := rfl
@[simp] theorem sgN_eEv (is : List Nat) (e : Int × Int) (sl : List Sl) : sgN is (eEv e) sl = sgs is [.int e.1, .int e.2] sl := rfl
@[simp] theorem tgN_eEv (is : List Nat) (e : Int × Int) (sl : En) : tgN is (eEv e) sl = tgs is [.int e.1, .int e.2] sl := rfl
@[simp] theorem pyLen_eL (l : Log) : pyLen [eL l] = some (.int (l.length : Nat)) := by
  show some (PyData.int (((l.map eEv).length : Nat) : Int)) = _
  rw [List.length_map]

def cntS (a : List Age) : Int := ((a.filter (·.isSome)).length : Nat)
def anyAges (ss : List Int) (a : List Age) : List Age := (a.zipIdx).map fun p => if ((p.2 : Nat) : Int) + 1 ∈ ss then some 0 else p.1
def frIx (fr : List Age) : List Int := ((fr.zipIdx).filter fun p => p.1.isSome).map fun p => ((p.2 : Nat) : Int) + 1
def behindF (w : Way) (s : Stg) (e : Int × Int) : Stg :=
  if w.ps = .any then
    ⟨max s.best (cntS (anyAges (stepsIn w e.2) (s.ages.map (growA e.1 w.wi)))), s.begun || decide (1 ∈ stepsIn w e.2), anyAges (stepsIn w e.2) (s.ages.map (growA e.1 w.wi))⟩
  else
    ⟨(frIx (cameF w s.begun (s.ages.map (growA e.1 w.wi)) e.2)).foldl max s.best, s.begun || decide (1 ∈ stepsIn w e.2),
      if w.ps = .loose then List.zipWith lesserA (s.ages.map (growA e.1 w.wi)) (cameF w s.begun (s.ages.map (growA e.1 w.wi)) e.2)
      else if w.ps ≠ .among ∨ stepsIn w e.2 ≠ [] then cameF w s.begun (s.ages.map (growA e.1 w.wi)) e.2 else s.ages.map (growA e.1 w.wi)⟩
theorem cameF_len (w : Way) (b : Bool) (a : List Age) (k : Int) : (cameF w b a k).length = w.st.length := by simp [cameF]
theorem max_if (i j : Int) : (if j > i then j else i) = max i j := by
  rw [Int.max_def]
  split <;> split <;> omega
theorem pyMax2_i (i j : Int) : pyMax2 [.int i, .int j] = some (.int (max i j)) := by
  rw [← max_if]
  rfl
theorem pyMax1_l (x : Int) (r : List Int) : pyMax1 [.list (.int x :: r.map .int)] = some (.int (r.foldl max x)) := by
  show (((intsD (.int x :: r.map .int)).bind maxL).map PyData.int) = _
  have h := intsD_map (x :: r)
  rw [List.map_cons] at h
  rw [h]
  rfl
theorem mem_ints (k : Int) (ks : List Int) : pyIn false (.int k) (.list (ks.map .int)) = some (.bool (decide (k ∈ ks))) := pyIn_ints k ks false
theorem ne_ints (ks : List Int) : pyNe (.list (ks.map .int)) (.list []) = some (.bool (!decide (ks = []))) := by
  rw [pyNe_nil (shn_list (shn_ints ks))]
  cases ks <;> simp
theorem or_in (b : Bool) (c : Bool) : (if b = true then some (PyData.bool true) else some (PyData.bool c)) = some (.bool (b || c)) := by cases b <;> rfl
theorem ev_behind_in (w : Way) (s : Stg) (e : Int × Int) (h4 : w.st.length ≤ 4) (ha : s.ages.length = w.st.length) : m_behind_in [eW w, eS s, eEv e] = some (eS (behindF w s e)) := by
  have hg := ev_grown s.ages e.1 w.wi (by omega)
  have hs := ev_steps_in w h4 e.2
  have hc := ev_came w s.begun (s.ages.map (growA e.1 w.wi)) e.2 h4 (by rw [List.length_map, ha])
  have hcl := cameF_len w s.begun (s.ages.map (growA e.1 w.wi)) e.2
  have hgl : (s.ages.map (growA e.1 w.wi)).length = w.st.length := by rw [List.length_map, ha]
  generalize hga : s.ages.map (growA e.1 w.wi) = a at *
  generalize hcf : cameF w s.begun a e.2 = fr at *
  have t2 : ∀ b c d, PyData.tuple [.int b, .bool c, eAs d] = eS ⟨b, c, d⟩ := fun _ _ _ => rfl
  rw [c_behind_in]
  by_cases hp : w.ps = .any
  · have c1 : ∀ y z, compL (tgN [10, 11]) cYes (eIf (fT (e2 (pyIn false) (e2 pyAdd (eV 10) (eC (.int 1))) (eV 8))) (eC (.int 0)) (eV 11))
        [some (eW w), some (eS s), some (eEv e), some (.int s.best), some (.bool s.begun), some (eAs a), some (.int e.1), some (.int e.2), some (.list ((stepsIn w e.2).map .int)), none, y, z, none] ((a.zipIdx : List (Age × Nat)).map fun p => .tuple [.int (p.2 : Nat), eA p.1])
        = some ((a.zipIdx : List (Age × Nat)).map fun p => eA (if ((p.2 : Nat) : Int) + 1 ∈ stepsIn w e.2 then some 0 else p.1)) := fun y z =>
      compL_all (α := Age × Nat) _ _ _ fun x hx => ⟨_, rfl, by by_cases q : ((x.2 : Nat) : Int) + 1 ∈ stepsIn w e.2 <;> simp [q, mem_ints, eA]⟩
    have k1 : cap ((a.zipIdx : List (Age × Nat)).map fun p => PyData.tuple [.int (p.2 : Nat), eA p.1]) = some ((a.zipIdx : List (Age × Nat)).map fun p => .tuple [.int (p.2 : Nat), eA p.1]) := cap_ok (by simp; omega)
    have e1 : ((a.zipIdx : List (Age × Nat)).map fun p => eA (if ((p.2 : Nat) : Int) + 1 ∈ stepsIn w e.2 then some 0 else p.1)) = (anyAges (stepsIn w e.2) a).map eA := by
      unfold anyAges
      rw [List.map_map]
      rfl
    have c2 : ∀ y z : Option PyData, ∀ b : List Age, compL (tg1 11) (fT (e2 pyNotN (eV 11) (eC .none))) (eV 11)
        [some (eW w), some (eS s), some (eEv e), some (.int s.best), some (.bool s.begun), some (eAs b), some (.int e.1), some (.int e.2), some (.list ((stepsIn w e.2).map .int)), none, y, z, none] (b.map eA)
        = some ((b.filter fun x => x.isSome).map eA) := fun y z b =>
      compL_eq eA (fun x => x.isSome) eA b fun x hx => ⟨_, rfl, by simp, fun _ => by simp⟩
    have k2 : cap ((anyAges (stepsIn w e.2) a).map eA) = some ((anyAges (stepsIn w e.2) a).map eA) := cap_ok (by simp [anyAges]; omega)
    have t1 : PyData.tuple ((anyAges (stepsIn w e.2) a).map eA) = eAs (anyAges (stepsIn w e.2) a) := rfl
    simp [g_behind_in, hg, hs, hp, enum_map, k1, c1, e1, t1, k2, c2, pyMax2_i, mem_ints, or_in, behindF, hga, t2, cntS]
  · have k1 : cap ((fr.zipIdx : List (Age × Nat)).map fun p => PyData.tuple [.int (p.2 : Nat), eA p.1]) = some ((fr.zipIdx : List (Age × Nat)).map fun p => .tuple [.int (p.2 : Nat), eA p.1]) := cap_ok (by simp; omega)
    have c1 : ∀ y z, compL (tgN [10, 11]) (fT (e2 pyNotN (eV 11) (eC .none))) (e2 pyAdd (eV 10) (eC (.int 1)))
        [some (eW w), some (eS s), some (eEv e), some (.int s.best), some (.bool s.begun), some (eAs a), some (.int e.1), some (.int e.2), some (.list ((stepsIn w e.2).map .int)), some (.list (fr.map eA)), y, z, none] ((fr.zipIdx : List (Age × Nat)).map fun p => .tuple [.int (p.2 : Nat), eA p.1])
        = some (((fr.zipIdx : List (Age × Nat)).filter fun p => p.1.isSome).map fun p => .int ((p.2 : Nat) + 1)) := fun y z =>
      compL_eq (α := Age × Nat) _ (fun p => p.1.isSome) (fun p => .int ((p.2 : Nat) + 1)) _ fun x hx => ⟨_, rfl, by simp, fun _ => by simp⟩
    have e1 : (((fr.zipIdx : List (Age × Nat)).filter fun p => p.1.isSome).map fun p => PyData.int ((p.2 : Nat) + 1)) = (frIx fr).map .int := by
      unfold frIx
      rw [List.map_map]
      rfl
    have lf : (frIx fr).length ≤ 4 := by
      unfold frIx
      rw [List.length_map]
      have := List.length_filter_le (fun p : Age × Nat => p.1.isSome) fr.zipIdx
      rw [List.length_zipIdx] at this
      omega
    have k2 : ∀ x : PyData, pyAdd (.list [x]) (.list ((frIx fr).map .int)) = some (.list (x :: (frIx fr).map .int)) := fun x => by
      show (if [x].length + ((frIx fr).map PyData.int).length ≤ 100000 then some (PyData.list ([x] ++ (frIx fr).map .int)) else none) = _
      rw [if_pos (by simp; omega)]
      rfl
    have c3 : ∀ y z b, compL (tgN [11, 12]) cYes (eF m_lesser (aC (eV 11) (aC (eV 12) aN)))
        [some (eW w), some (eS s), some (eEv e), some (.int b), some (.bool s.begun), some (eAs a), some (.int e.1), some (.int e.2), some (.list ((stepsIn w e.2).map .int)), some (.list (fr.map eA)), none, y, z] ((a.zip fr).map fun p => .tuple [eA p.1, eA p.2])
        = some ((a.zip fr).map fun p => eA (lesserA p.1 p.2)) := fun y z b =>
      compL_all (α := Age × Age) _ _ _ fun x hx => ⟨_, rfl, by simp [ev_lesser]⟩
    have k3 : cap ((a.zip fr).map fun p => PyData.tuple [eA p.1, eA p.2]) = some ((a.zip fr).map fun p => .tuple [eA p.1, eA p.2]) := cap_ok (by simp; omega)
    have e3 : ((a.zip fr).map fun p => eA (lesserA p.1 p.2)) = (List.zipWith lesserA a fr).map eA := by
      unfold List.zip
      rw [List.map_zipWith, List.map_zipWith]
    have z1 : zipK (eAs a) (.list (fr.map eA)) = some (zipD (a.map eA) (fr.map eA)) := rfl
    have t1 : ∀ b : List Age, PyData.tuple (b.map eA) = eAs b := fun _ => rfl
    have cz := hcf
    by_cases hl : w.ps = .loose
    · simp [g_behind_in, hg, hs, hp, hc, enum_map, k1, c1, e1, k2, pyMax1_l, hl, z1, zipD_map, k3, c3, e3, t1, mem_ints, or_in, behindF, hga, hcf, t2]
      simp [eS, eAs, List.map_zipWith]
    · by_cases hm : w.ps = .among
      · by_cases hn : stepsIn w e.2 = []
        · have nn : pyNe (.list ((stepsIn w e.2).map .int)) (.list []) = some (.bool false) := by
            rw [ne_ints, hn]
            rfl
          have hb : behindF w s e = ⟨(frIx fr).foldl max s.best, s.begun || decide (1 ∈ stepsIn w e.2), a⟩ := by
            unfold behindF
            rw [if_neg hp, hga, hcf, if_neg hl, if_neg (fun q => q.elim (fun z => z hm) fun z => z hn)]
          rw [hb]
          simp [g_behind_in, hg, hs, hp, hc, enum_map, k1, c1, e1, k2, pyMax1_l, hl, hm, nn, t1, mem_ints, or_in, t2]
        · have nn : pyNe (.list ((stepsIn w e.2).map .int)) (.list []) = some (.bool true) := by
            rw [ne_ints, decide_eq_false hn]
            rfl
          have hb : behindF w s e = ⟨(frIx fr).foldl max s.best, s.begun || decide (1 ∈ stepsIn w e.2), fr⟩ := by
            unfold behindF
            rw [if_neg hp, hga, hcf, if_neg hl, if_pos (.inr hn)]
          rw [hb]
          simp [g_behind_in, hg, hs, hp, hc, enum_map, k1, c1, e1, k2, pyMax1_l, hl, hm, nn, t1, mem_ints, or_in, t2]
      · simp [g_behind_in, hg, hs, hp, hc, enum_map, k1, c1, e1, k2, pyMax1_l, hl, hm, ne_ints, t1, mem_ints, or_in, behindF, hga, hcf, t2]
theorem behindF_len (w : Way) (s : Stg) (e : Int × Int) (ha : s.ages.length = w.st.length) : (behindF w s e).ages.length = w.st.length := by
  unfold behindF
  split
  · simp [anyAges, ha]
  · dsimp only
    split
    · simp [cameF_len, ha]
    · split
      · rw [cameF_len]
      · rw [List.length_map, ha]
def behindAll (w : Way) (l : Log) : Stg := l.foldl (behindF w) (firstS w)
theorem ev_behind_all (w : Way) (l : Log) (h1 : 1 ≤ w.st.length) (h4 : w.st.length ≤ 4) : m_behind_all [eW w, eL l] = some (eS (behindAll w l)) := by
  have key : ∀ (l2 : Log) (s : Stg) (z : Sl), s.ages.length = w.st.length → ∃ z', loopS (sg1 3) (seqS (asgS 2 (eF m_behind_in (aC (eV 0) (aC (eV 2) (aC (eV 3) aN))))) nextS) (l2.map eEv) [.dat (eW w), .dat (eL l), .dat (eS s), z]
      = some (.nx [.dat (eW w), .dat (eL l), .dat (eS (l2.foldl (behindF w) s)), z']) := by
    intro l2
    induction l2 with
    | nil => exact fun s z _ => ⟨z, rfl⟩
    | cons e r ih =>
      intro s z hs
      obtain ⟨z', h2⟩ := ih (behindF w s e) (.dat (eEv e)) (behindF_len w s e hs)
      refine ⟨z', ?_⟩
      rw [List.map_cons, loopS_cons, List.foldl_cons, ← h2]
      simp [ev_behind_in w s e h4 hs]
  obtain ⟨z', h2⟩ := key l (firstS w) .no (by simp [firstS])
  rw [c_behind_all]
  simp [g_behind_all, ev_first_in w h1 h4, h2, behindAll]
theorem ev_standing_of (w : Way) (l : Log) (ok : w.Ok) (lo : LogOk l) : m_standing_of [eW w, eL l] = some (eS (behindAll w l)) := by
  rw [c_standing_of]
  simp [g_standing_of, ev_need_way w ok, ev_need_log l lo, ev_behind_all w l ok.s1 ok.s4]
theorem ev_level (w : Way) (l : Log) (ok : w.Ok) (lo : LogOk l) : m_level [eW w, eL l] = some (.int (behindAll w l).best) := by
  have e : pyIx (eS (behindAll w l)) (.int 0) = some (.int (behindAll w l).best) := by simp [eS]
  rw [c_level]
  simp [g_level, ev_need_way w ok, ev_need_log l lo, ev_behind_all w l ok.s1 ok.s4, e]
end Sb
end
section
set_option Elab.async false
set_option linter.all false
set_option maxRecDepth 100000
set_option maxHeartbeats 4000000
/-! Ev5: rows of numbers; whether one is a chain. -/
namespace Sb
open PySem PySem.Spec L2
open PyProof.Rows hiding St

def tm (l : Log) (n : Nat) : Int := (times l).getD n 0
def at_ (l : Log) (n : Nat) : Int × Int := l.getD n (0, 0)
def kd (l : Log) (n : Nat) : Int := (at_ l n).2
/-- the first, the last number -/
def hd (row : List Nat) : Nat := row.headD 0
def ls (row : List Nat) : Nat := row.getLastD 0
theorem hd_cons (x : Nat) (r : List Nat) : hd (x :: r) = x := rfl
theorem ls_last {row : List Nat} (h : row ≠ []) : ls row = row.getLast h := by
  unfold ls
  rw [List.getLastD_eq_getLast?, List.getLast?_eq_some_getLast h]
  rfl
def ri (row : List Nat) : List Int := row.map fun n => ((n : Nat) : Int)
def eR (row : List Nat) : PyData := .tuple ((ri row).map .int)
theorem eR_eq (row : List Nat) : (ri row).map PyData.int = row.map fun n => .int ((n : Nat) : Int) := by
  unfold ri
  rw [List.map_map]
  rfl
theorem tm_at {l : Log} {n : Nat} (h : n < l.length) : (times l)[n]? = some (tm l n) := by
  unfold tm
  rw [List.getD_eq_getElem?_getD, List.getElem?_eq_getElem (by rw [times_length]; exact h)]
  rfl
theorem at_at {l : Log} {n : Nat} (h : n < l.length) : l[n]? = some (at_ l n) := by
  unfold at_
  rw [List.getD_eq_getElem?_getD, List.getElem?_eq_getElem h]
  rfl
theorem ix_T {l : Log} {n : Nat} (h : n < l.length) : pyIx (.list ((times l).map .int)) (.int (n : Nat)) = some (.int (tm l n)) := by
  rw [pyIx_l, atI_nat, List.getElem?_map, tm_at h]
  rfl
theorem ix_L {l : Log} {n : Nat} (h : n < l.length) : pyIx (eL l) (.int (n : Nat)) = some (eEv (at_ l n)) := by
  unfold eL
  rw [pyIx_t, atI_nat, List.getElem?_map, at_at h]
  rfl
@[simp] theorem eEv_1 (e : Int × Int) : pyIx (eEv e) (.int 1) = some (.int e.2) := by simp [eEv]
@[simp] theorem eEv_0 (e : Int × Int) : pyIx (eEv e) (.int 0) = some (.int e.1) := by simp [eEv]
@[simp] theorem items_eR (row : List Nat) : items (eR row) = some ((ri row).map .int) := rfl
@[simp] theorem isT_eR (row : List Nat) : isT "tuple" (eR row) = some true := isT_tuple _
@[simp] theorem pyLen_eR (row : List Nat) : pyLen [eR row] = some (.int (row.length : Nat)) := by
  show some (PyData.int ((((ri row).map PyData.int).length : Nat) : Int)) = _
  simp [ri]
theorem eR_0 (row : List Nat) (h : row ≠ []) : pyIx (eR row) (.int 0) = some (.int ((hd row : Nat) : Int)) := by
  unfold eR
  cases row with
  | nil => exact absurd rfl h
  | cons x r => simp [ri, hd_cons]
theorem eR_last (row : List Nat) (h : row ≠ []) : pyIx (eR row) (.int (-1)) = some (.int ((ls row : Nat) : Int)) := by
  unfold eR
  rw [pyIx_t, atI_last, eR_eq, List.getLast?_map, List.getLast?_eq_some_getLast h, ls_last h]
  rfl
/-- a row of numbers of events -/
structure RowOk (l : Log) (row : List Nat) : Prop where
  ne : row ≠ []
  up : row.Pairwise (· < ·)
  lt : ∀ n ∈ row, n < l.length
  ll : l.length ≤ 1000
theorem len_up : ∀ {row : List Nat} {k : Nat}, row.Pairwise (· < ·) → (∀ n ∈ row, k ≤ n) → ∀ m, (∀ n ∈ row, n < m) → row.length ≤ m - k
  | [], _, _, _, _, _ => Nat.zero_le _
  | x :: r, k, h, hk, m, hm => by
    have h' := List.pairwise_cons.mp h
    have ih := len_up (k := x + 1) h'.2 (fun n hn => h'.1 n hn) m fun n hn => hm n (List.mem_cons_of_mem _ hn)
    have a := hk x List.mem_cons_self
    have b := hm x List.mem_cons_self
    rw [List.length_cons]
    omega
theorem RowOk.len {l : Log} {row : List Nat} (r : RowOk l row) : row.length ≤ 1000 := by
  have := len_up (k := 0) r.up (fun _ _ => Nat.zero_le _) l.length r.lt
  have := r.ll
  omega
theorem RowOk.head {l : Log} {row : List Nat} (r : RowOk l row) : hd row < l.length := by
  cases row with
  | nil => exact absurd rfl r.ne
  | cons x s => exact r.lt x List.mem_cons_self
theorem RowOk.last {l : Log} {row : List Nat} (r : RowOk l row) : ls row < l.length := by
  rw [ls_last r.ne]
  exact r.lt _ (List.getLast_mem r.ne)
theorem ri_up {row : List Nat} (h : row.Pairwise (· < ·)) : (ri row).Pairwise (· < ·) := by
  unfold ri
  rw [List.pairwise_map]
  exact h.imp fun q => by omega
theorem zip_mem_fst {α β : Type} {a : List α} {b : List β} {p : α × β} (h : p ∈ a.zip b) : p.1 ∈ a := (List.of_mem_zip (a := p.1) (b := p.2) h).1
theorem zip_mem_snd {α β : Type} {a : List α} {b : List β} {p : α × β} (h : p ∈ a.zip b) : p.2 ∈ b := (List.of_mem_zip (a := p.1) (b := p.2) h).2
theorem ev_is_row {l : Log} {row : List Nat} (r : RowOk l row) : m_is_row [eL l, eR row] = some (.bool true) := by
  have hlen := r.len
  have c1 : compL (tg1 2) cYes (eF m_is_integer (aC (eV 2) (aC (eC (.int 0)) (aC (e2 pySub (eF pyLen (aC (eV 0) aN)) (eC (.int 1))) aN)))) [some (eL l), some (eR row), none, none] ((ri row).map .int) = some ((ri row).map fun x => .bool (decide (0 ≤ x) && decide (x ≤ (l.length : Int) - 1))) :=
    compL_all .int (fun x => .bool (decide (0 ≤ x) && decide (x ≤ (l.length : Int) - 1))) _ fun x hx => ⟨_, rfl, by simp [ev_is_integer]⟩
  have a1 : ((ri row).all fun x => decide (0 ≤ x) && decide (x ≤ (l.length : Int) - 1)) = true := List.all_eq_true.mpr fun x hx => by
    obtain ⟨n, hn, rfl⟩ := List.mem_map.mp hx
    have := r.lt n hn
    simp
    omega
  have e0 : pyEq (eR row) (.tuple []) = some (.bool false) := by
    unfold eR
    rw [pyEq_nilT (shn_tuple (shn_ints (ri row)))]
    have := r.ne
    cases row with
    | nil => exact absurd rfl this
    | cons x s => rfl
  have k1 : cap ((ri row).map PyData.int) = some ((ri row).map PyData.int) := cap_ok (by simp [ri]; omega)
  have c2 : compL (tgN [2, 3]) cYes (e2 pyLt (eV 2) (eV 3)) [some (eL l), some (eR row), none, none] (((ri row).zip (ri row).tail).map fun p => .tuple [.int p.1, .int p.2]) = some (((ri row).zip (ri row).tail).map fun p => .bool (decide (p.1 < p.2))) :=
    compL_all _ _ _ fun x hx => ⟨_, rfl, by simp⟩
  have a2 : ((ri row).zip (ri row).tail).all (fun p => decide (p.1 < p.2)) = true := asc_of (ri_up r.up)
  have k2 : cap (((ri row).zip (ri row).tail).map fun p => PyData.tuple [.int p.1, .int p.2]) = some (((ri row).zip (ri row).tail).map fun p => .tuple [.int p.1, .int p.2]) := cap_ok (by simp [ri]; omega)
  have z1 : pySl (some 1) none (eR row) = some (.tuple ((ri row).map PyData.int).tail) := by
    unfold eR
    simp
  have z2 : zipK (eR row) (.tuple ((ri row).map PyData.int).tail) = some (((ri row).zip (ri row).tail).map fun p => .tuple [.int p.1, .int p.2]) := by
    show some (zipD _ _) = _
    rw [zipD_tail]
  rw [c_is_row]
  simp [g_is_row, e0, k1, c1, a1, z1, z2, k2, c2, a2]
/-- the times are within the window -/
def nearF (w : Way) (l : Log) (row : List Nat) : Bool :=
  if w.ea = true then (row.zip row.tail).all fun p => decide (tm l p.2 - tm l p.1 ≤ w.wi) else decide (tm l (ls row) - tm l (hd row) ≤ w.wi)
theorem ri_zip (row : List Nat) : (ri row).zip (ri row).tail = (row.zip row.tail).map fun p => (((p.1 : Nat) : Int), ((p.2 : Nat) : Int)) := by
  unfold ri
  rw [← List.map_tail]
  unfold List.zip
  rw [List.zipWith_map, List.map_zipWith]
theorem ev_are_near {l : Log} {row : List Nat} (w : Way) (r : RowOk l row) : m_are_near [eW w, eL l, eR row] = some (.bool (nearF w l row)) := by
  have hlen := r.len
  have ht := ev_times_in l r.ll
  rw [c_are_near]
  cases he : w.ea with
  | true =>
    have c1 : compL (tgN [4, 5]) cYes (e2 pyLe (e2 pySub (e2 pyIx (eV 3) (eV 5)) (e2 pyIx (eV 3) (eV 4))) (e2 pyIx (eV 0) (eC (.int 3)))) [some (eW w), some (eL l), some (eR row), some (.list ((times l).map .int)), none, none]
        ((row.zip row.tail).map fun p => .tuple [.int ((p.1 : Nat) : Int), .int ((p.2 : Nat) : Int)]) = some ((row.zip row.tail).map fun p => .bool (decide (tm l p.2 - tm l p.1 ≤ w.wi))) :=
      compL_all _ _ _ fun x hx => ⟨_, rfl, by
        have h1 := tm_at (r.lt _ (zip_mem_fst hx))
        have h2 := tm_at (r.lt _ (List.mem_of_mem_tail (zip_mem_snd hx)))
        simp [h1, h2]⟩
    have k1 : cap ((row.zip row.tail).map fun p => PyData.tuple [.int ((p.1 : Nat) : Int), .int ((p.2 : Nat) : Int)]) = some ((row.zip row.tail).map fun p => .tuple [.int ((p.1 : Nat) : Int), .int ((p.2 : Nat) : Int)]) := cap_ok (by simp; omega)
    have z1 : pySl (some 1) none (eR row) = some (.tuple ((ri row).map PyData.int).tail) := by
      unfold eR
      simp
    have z2 : zipK (eR row) (.tuple ((ri row).map PyData.int).tail) = some ((row.zip row.tail).map fun p => .tuple [.int ((p.1 : Nat) : Int), .int ((p.2 : Nat) : Int)]) := by
      show some (zipD _ _) = _
      rw [zipD_tail, ri_zip, List.map_map]
      rfl
    simp [g_are_near, ht, he, z1, z2, k1, c1, nearF]
  | false =>
    have h1 := tm_at r.head
    have h2 := tm_at r.last
    simp [g_are_near, ht, he, eR_0 row r.ne, eR_last row r.ne, h1, h2, nearF]
/-- a, .. below b -/
def spN (a b : Nat) : List Nat := (List.range (b - a)).map fun i => a + i
theorem mem_spN {a b n : Nat} : n ∈ spN a b ↔ a ≤ n ∧ n < b := by
  unfold spN
  rw [List.mem_map]
  constructor
  · rintro ⟨i, h, rfl⟩
    rw [List.mem_range] at h
    omega
  · rintro ⟨h1, h2⟩
    exact ⟨n - a, List.mem_range.mpr (by omega), by omega⟩
theorem spN_len (a b : Nat) : (spN a b).length = b - a := by simp [spN]
/-- the numbers between the ends, besides its own -/
def innF (row : List Nat) : List Nat := ((spN (hd row) (ls row)).filter fun n => decide (n ∉ row))
def freeF (w : Way) (l : Log) (row : List Nat) : Bool :=
  if w.ps = .strict then decide (innF row = []) else !decide (w.ps = .among) || !(innF row).any fun n => !decide (stepsIn w (kd l n) = [])
theorem head_le_last {row : List Nat} (h : row.Pairwise (· < ·)) (hn : row ≠ []) : ∀ n ∈ row, hd row ≤ n ∧ n ≤ ls row := by
  intro n hm
  rw [ls_last hn]
  constructor
  · cases row with
    | nil => exact absurd rfl hn
    | cons x r =>
      rcases List.mem_cons.mp hm with rfl | hm
      · exact Nat.le_refl _
      · exact Nat.le_of_lt ((List.pairwise_cons.mp h).1 n hm)
  · have e := List.dropLast_concat_getLast hn
    rw [← e] at hm h
    rcases List.mem_append.mp hm with hm | hm
    · have := (List.pairwise_append.mp h).2.2 n hm _ (List.mem_singleton.mpr rfl)
      exact Nat.le_of_lt this
    · rw [List.mem_singleton.mp hm]
      exact Nat.le_refl _
theorem mem_ri (n : Nat) (row : List Nat) : ((n : Nat) : Int) ∈ ri row ↔ n ∈ row := by
  unfold ri
  rw [List.mem_map]
  exact ⟨fun ⟨m, h, e⟩ => by rw [show n = m by omega]; exact h, fun h => ⟨n, h, rfl⟩⟩
theorem range_sp (a b : Nat) : rangeD ((a : Nat) : Int) (b - a) = (spN a b).map fun n => PyData.int ((n : Nat) : Int) := by
  unfold rangeD spN
  rw [List.map_map]
  rfl
theorem ev_is_free {l : Log} {row : List Nat} (w : Way) (r : RowOk l row) (h4 : w.st.length ≤ 4) : m_is_free [eW w, eL l, eR row] = some (.bool (freeF w l row)) := by
  have hlen := r.len
  have hll := r.ll
  have hh := r.head
  have hla := r.last
  have k1 : cap ((spN (hd row) (ls row)).map fun n => PyData.int ((n : Nat) : Int)) = some ((spN (hd row) (ls row)).map fun n => .int ((n : Nat) : Int)) := cap_ok (by rw [List.length_map, spN_len]; omega)
  have c1 : compL (tg1 4) (fT (e2 (pyIn true) (eV 4) (eV 2))) (eV 4) [some (eW w), some (eL l), some (eR row), none, none] ((spN (hd row) (ls row)).map fun n => .int ((n : Nat) : Int))
      = some ((innF row).map fun n => .int ((n : Nat) : Int)) :=
    compL_eq (fun n : Nat => .int ((n : Nat) : Int)) (fun n => decide (n ∉ row)) (fun n => .int ((n : Nat) : Int)) _ fun x hx => ⟨_, rfl, by
      have := mem_ri x row
      unfold eR
      simp [this], fun _ => by simp⟩
  have rr : (-100000 ≤ ((hd row : Nat) : Int) ∧ ((hd row : Nat) : Int) ≤ 100000) ∧ -100000 ≤ ((ls row : Nat) : Int) ∧ ((ls row : Nat) : Int) ≤ 100000 := by omega
  have e1 : (innF row).map (fun n => PyData.int ((n : Nat) : Int)) = (ri (innF row)).map .int := (eR_eq _).symm
  have n1 : pyEq (.list ((ri (innF row)).map .int)) (.list []) = some (.bool (decide (innF row = []))) := by
    rw [pyEq_nil (shn_list (shn_ints _))]
    cases innF row <;> simp [ri]
  rw [c_is_free]
  by_cases hs : w.ps = .strict
  · simp [g_is_free, eR_0 row r.ne, eR_last row r.ne, rr, range_sp, k1, c1, e1, hs, n1, freeF]
  · have c2 : compL (tg1 4) cYes (e2 pyNe (eF m_steps_in (aC (eV 0) (aC (e2 pyIx (e2 pyIx (eV 1) (eV 4)) (eC (.int 1))) aN))) (eLst aN)) [some (eW w), some (eL l), some (eR row), some (.list ((ri (innF row)).map .int)), none] ((innF row).map fun n => .int ((n : Nat) : Int))
        = some ((innF row).map fun n => .bool (!decide (stepsIn w (kd l n) = []))) :=
      compL_all _ _ _ fun x hx => ⟨_, rfl, by
        have hx' := mem_spN.mp (List.mem_filter.mp hx).1
        have h1 := ix_L (l := l) (n := x) (by omega)
        have h2 := ev_steps_in w h4 (kd l x)
        unfold kd at h2 ⊢
        simp only [e2_ap, eF_ap, aC_ap, eV_ap, eC_ap, eLst_ap, aN_ap, cap_nil, List.set_cons_succ, List.set_cons_zero, List.getElem?_cons_succ, List.getElem?_cons_zero, Option.join_some, Option.bind_some, Option.map_some, h1, eEv_1, h2, ne_ints]⟩
    have k2 : cap ((ri (innF row)).map PyData.int) = some ((ri (innF row)).map .int) := cap_ok (by
      have := List.length_filter_le (fun n => decide (n ∉ row)) (spN (hd row) (ls row))
      rw [spN_len] at this
      simp only [ri, List.length_map, innF]
      omega)
    rw [← e1] at k2
    simp [g_is_free, eR_0 row r.ne, eR_last row r.ne, rr, range_sp, k1, c1, hs, freeF]
    rw [← e1] at c2
    simp [k2, c2]
    by_cases hm : w.ps = .among <;> simp [hm]
end Sb
end
section
set_option Elab.async false
set_option linter.all false
set_option maxRecDepth 100000
set_option maxHeartbeats 4000000
/-! Ev6: chains in order. -/
namespace Sb
open PySem PySem.Spec L2
open PyProof.Rows hiding St

def kindsF (w : Way) (l : Log) (row : List Nat) : Bool := (row.zip w.st).all fun p => decide (kd l p.1 ∈ p.2)
def firstF (w : Way) (l : Log) (row : List Nat) : Bool := !w.fi || !(l.take (hd row)).any fun e => decide (1 ∈ stepsIn w e.2)
def goodF (w : Way) (l : Log) (row : List Nat) : Bool := kindsF w l row && (nearF w l row && (freeF w l row && firstF w l row))
def chainB (w : Way) (l : Log) (row : List Nat) : Bool := decide (row.length ≤ w.st.length) && goodF w l row
theorem zip_enc (row : List Nat) (st : List (List Int)) : zipD ((ri row).map .int) (st.map eKs) = (row.zip st).map fun p => .tuple [.int ((p.1 : Nat) : Int), eKs p.2] := by
  rw [eR_eq, zipD_map]
theorem ev_is_chain_in {l : Log} {row : List Nat} (w : Way) (r : RowOk l row) (h4 : w.st.length ≤ 4) (hp : w.ps ≠ .any) : m_is_chain_in [eW w, eL l, eR row] = some (.bool (chainB w l row)) := by
  have hll := r.ll
  have hh := r.head
  have c1 : compL (tgN [3, 4]) cYes (e2 (pyIn false) (e2 pyIx (e2 pyIx (eV 1) (eV 3)) (eC (.int 1))) (eV 4)) [some (eW w), some (eL l), some (eR row), none, none, none, none] ((row.zip w.st).map fun p => .tuple [.int ((p.1 : Nat) : Int), eKs p.2])
      = some ((row.zip w.st).map fun p => .bool (decide (kd l p.1 ∈ p.2))) :=
    compL_all _ _ _ fun x hx => ⟨_, rfl, by
      have h1 := ix_L (r.lt _ (zip_mem_fst hx))
      simp [h1, eKs]
      rfl⟩
  have k1 : cap ((row.zip w.st).map fun p => PyData.tuple [.int ((p.1 : Nat) : Int), eKs p.2]) = some ((row.zip w.st).map fun p => .tuple [.int ((p.1 : Nat) : Int), eKs p.2]) := cap_ok (by simp; omega)
  have z1 : zipK (eR row) (.tuple (w.st.map eKs)) = some ((row.zip w.st).map fun p => .tuple [.int ((p.1 : Nat) : Int), eKs p.2]) := by
    show some (zipD _ _) = _
    rw [zip_enc]
  have sl : pySl none (some ((hd row : Nat) : Int)) (eL l) = some (.tuple ((l.take (hd row)).map eEv)) := by
    unfold eL
    rw [pySl_t, cut_to _ _ (by rw [List.length_map]; omega), List.map_take]
  have c2 : compL (tgN [5, 6]) cYes (e2 (pyIn false) (eC (.int 1)) (eF m_steps_in (aC (eV 0) (aC (eV 6) aN)))) [some (eW w), some (eL l), some (eR row), none, none, none, none] ((l.take (hd row)).map eEv)
      = some ((l.take (hd row)).map fun e => .bool (decide (1 ∈ stepsIn w e.2))) :=
    compL_all _ _ _ fun x hx => ⟨_, rfl, by simp [ev_steps_in w h4, mem_ints]⟩
  have k2 : cap ((l.take (hd row)).map eEv) = some ((l.take (hd row)).map eEv) := cap_ok (by simp; omega)
  have nr := ev_are_near w r
  have fr := ev_is_free w r h4
  rw [c_is_chain_in]
  unfold chainB goodF firstF kindsF
  generalize l.take (hd row) = l2 at *
  by_cases hl : row.length ≤ w.st.length
  · have hl' : ¬ ((w.st.length : Int) < row.length) := by omega
    cases hk : (row.zip w.st).all fun p => decide (kd l p.1 ∈ p.2) with
    | false => simp [g_is_chain_in, hp, ev_is_row r, hl, hl', z1, k1, c1, hk]
    | true =>
      cases hn : nearF w l row with
      | false => simp [g_is_chain_in, hp, ev_is_row r, hl, hl', z1, k1, c1, hk, nr, hn]
      | true =>
        cases hf : freeF w l row with
        | false => simp [g_is_chain_in, hp, ev_is_row r, hl, hl', z1, k1, c1, hk, nr, hn, fr, hf]
        | true =>
          cases hfi : w.fi <;> simp [g_is_chain_in, hp, ev_is_row r, hl, hl', z1, k1, c1, hk, nr, hn, fr, hf, hfi, eR_0 row r.ne, sl, k2, c2]
  · have hl' : (w.st.length : Int) < row.length := by omega
    simp [g_is_chain_in, hp, ev_is_row r, hl, hl']
theorem ev_is_chain {l : Log} {row : List Nat} (w : Way) (ok : w.Ok) (lo : LogOk l) (r : RowOk l row) (hp : w.ps ≠ .any) : m_is_chain [eW w, eL l, eR row] = some (.bool (chainB w l row)) := by
  rw [c_is_chain]
  simp [g_is_chain, ev_need_way w ok, ev_need_log l lo, ev_is_chain_in w r ok.s4 hp]

/-! ### one longer -/
abbrev Fd := List (Nat × List Nat)
def eFd (f : Fd) : List (PyData × PyData) := f.map fun p => (.int ((p.1 : Nat) : Int), eR p.2)
def getN (f : Fd) (n : Nat) : Option (List Nat) := (f.find? fun p => decide (p.1 = n)).map (·.2)
def putN (f : Fd) (n : Nat) (r : List Nat) : Fd := if (f.any fun p => decide (p.1 = n)) = true then f.map (fun p => if p.1 = n then (p.1, r) else p) else f ++ [(n, r)]
theorem isK_n (n m : Nat) : isK ((n : Nat) : Int) (.int ((m : Nat) : Int)) = decide (m = n) := by
  show decide (((m : Nat) : Int) = n) = _
  by_cases h : m = n
  · simp [h]
  · rw [decide_eq_false h, decide_eq_false (by omega)]
theorem valI_eFd (n : Nat) : ∀ f : Fd, valI (eFd f) ((n : Nat) : Int) = (getN f n).map eR
  | [] => rfl
  | p :: f => by
    have ih := valI_eFd n f
    unfold valI getN eFd at ih ⊢
    rw [List.map_cons, List.find?_cons, List.find?_cons]
    dsimp only
    rw [isK_n]
    by_cases h : p.1 = n
    · rw [decide_eq_true h] <;> rfl
    · rw [decide_eq_false h]
      exact ih
theorem putI_eFd (n : Nat) (r : List Nat) (f : Fd) : putI (eFd f) ((n : Nat) : Int) (eR r) = eFd (putN f n r) := by
  have e1 : ((eFd f).any fun p => isK ((n : Nat) : Int) p.1) = f.any fun p => decide (p.1 = n) := by
    unfold eFd
    rw [List.any_map]
    congr 1
    funext p
    exact isK_n n p.1
  unfold putI putN
  rw [e1]
  split
  · unfold eFd
    rw [List.map_map, List.map_map]
    refine List.map_congr_left fun p _ => ?_
    show (if isK ((n : Nat) : Int) (.int ((p.1 : Nat) : Int)) = true then _ else _) = _
    rw [isK_n]
    by_cases h : p.1 = n
    · rw [if_pos (decide_eq_true h)]
      show _ = (PyData.int ((((if p.1 = n then (p.1, r) else p).1 : Nat)) : Int), eR (if p.1 = n then (p.1, r) else p).2)
      rw [if_pos h]
    · rw [if_neg (by rw [decide_eq_false h]; exact Bool.false_ne_true)]
      show _ = (PyData.int ((((if p.1 = n then (p.1, r) else p).1 : Nat)) : Int), eR (if p.1 = n then (p.1, r) else p).2)
      rw [if_neg h]
  · unfold eFd
    rw [List.map_append]
    rfl
/-- the rows of a table are right -/
def FdOk (l : Log) (f : Fd) : Prop := ∀ p ∈ f, RowOk l p.2
theorem FdOk.put {l : Log} {f : Fd} {n : Nat} {r : List Nat} (h : FdOk l f) (hr : RowOk l r) : FdOk l (putN f n r) := by
  unfold putN
  split
  · intro p hp
    obtain ⟨q, hq, rfl⟩ := List.mem_map.mp hp
    by_cases e : q.1 = n
    · rw [if_pos e]
      exact hr
    · rw [if_neg e]
      exact h q hq
  · intro p hp
    rcases List.mem_append.mp hp with hp | hp
    · exact h p hp
    · rw [List.mem_singleton.mp hp]
      exact hr
theorem FdOk.get {l : Log} {f : Fd} {n : Nat} {r : List Nat} (h : FdOk l f) (e : getN f n = some r) : RowOk l r := by
  obtain ⟨p, h1, rfl⟩ := Option.map_eq_some_iff.mp e
  exact h p (List.mem_of_find?_eq_some h1)
/-- whether a further row is kept -/
def keepB (w : Way) (l : Log) (row : List Nat) (f : Fd) (n : Nat) : Bool := chainB w l (row ++ [n]) && (match getN f n with
  | none => true
  | some r => decide (hd r < hd row))
def stepN (w : Way) (l : Log) (row : List Nat) (f : Fd) (n : Nat) : Fd := if keepB w l row f n = true then putN f n (row ++ [n]) else f
def rowN (w : Way) (l : Log) (f : Fd) (row : List Nat) : Fd := (spN (ls row + 1) l.length).foldl (stepN w l row) f
def oneLonger (w : Way) (l : Log) (rows : List (List Nat)) : List (List Nat) := (rows.foldl (rowN w l) []).map (·.2)
theorem RowOk.snoc {l : Log} {row : List Nat} {n : Nat} (r : RowOk l row) (h1 : ls row < n) (h2 : n < l.length) : RowOk l (row ++ [n]) := by
  refine ⟨by simp, ?_, fun m hm => ?_, r.ll⟩
  · refine List.pairwise_append.mpr ⟨r.up, List.pairwise_singleton _ _, fun a ha b hb => ?_⟩
    rw [List.mem_singleton.mp hb]
    have := (head_le_last r.up r.ne a ha).2
    omega
  · rcases List.mem_append.mp hm with hm | hm
    · exact r.lt m hm
    · rw [List.mem_singleton.mp hm]
      exact h2
theorem FdOk.step {w : Way} {l : Log} {row : List Nat} {f : Fd} {n : Nat} (h : FdOk l f) (r : RowOk l row) (h1 : ls row < n) (h2 : n < l.length) : FdOk l (stepN w l row f n) := by
  unfold stepN
  split
  · exact h.put (r.snoc h1 h2)
  · exact h
theorem putN_len (f : Fd) (n : Nat) (r : List Nat) : (putN f n r).length ≤ f.length + 1 := by
  unfold putN
  split <;> simp
theorem eR_snoc (row : List Nat) (n : Nat) : PyData.tuple ((ri row).map .int ++ [.int ((n : Nat) : Int)]) = eR (row ++ [n]) := by
  unfold eR ri
  simp
theorem eFd_len (f : Fd) : (eFd f).length = f.length := by simp [eFd]
/-- keys below a bound, each once: so few -/
structure FdN (m : Nat) (f : Fd) : Prop where
  nd : (f.map (·.1)).Nodup
  lt : ∀ p ∈ f, p.1 < m
theorem putN_keys (f : Fd) (n : Nat) (r : List Nat) : (putN f n r).map (·.1) = if (f.any fun p => decide (p.1 = n)) = true then f.map (·.1) else f.map (·.1) ++ [n] := by
  unfold putN
  split
  · rw [List.map_map]
    refine List.map_congr_left fun p _ => ?_
    show (if p.1 = n then (p.1, r) else p).1 = p.1
    split <;> rfl
  · rw [List.map_append]
    rfl
theorem FdN.put {m : Nat} {f : Fd} {n : Nat} {r : List Nat} (h : FdN m f) (hn : n < m) : FdN m (putN f n r) := by
  have hk := putN_keys f n r
  constructor
  · rw [hk]
    split
    · exact h.nd
    · rename_i hh
      refine List.nodup_append.mpr ⟨h.nd, by simp, fun a ha b hb e => hh ?_⟩
      rw [List.mem_singleton] at hb
      obtain ⟨p, hp, rfl⟩ := List.mem_map.mp ha
      exact List.any_eq_true.mpr ⟨p, hp, decide_eq_true (e.trans hb)⟩
  · intro p hp
    have : p.1 ∈ (putN f n r).map (·.1) := List.mem_map.mpr ⟨p, hp, rfl⟩
    rw [hk] at this
    split at this
    · obtain ⟨q, hq, e⟩ := List.mem_map.mp this
      rw [← e]
      exact h.lt q hq
    · rcases List.mem_append.mp this with this | this
      · obtain ⟨q, hq, e⟩ := List.mem_map.mp this
        rw [← e]
        exact h.lt q hq
      · rw [List.mem_singleton.mp this]
        exact hn
theorem nd_len : ∀ (m : Nat) (l : List Nat), l.Nodup → (∀ x ∈ l, x < m) → l.length ≤ m
  | 0, [], _, _ => Nat.le_refl _
  | 0, x :: _, _, h => absurd (h x List.mem_cons_self) (Nat.not_lt_zero _)
  | m + 1, l, hn, h => by
    have h1 := List.length_eq_countP_add_countP (fun x => x == m) (l := l)
    have h2 : l.countP (fun x => x == m) ≤ 1 := List.nodup_iff_count.mp hn m
    have h3 := nd_len m (l.filter fun x => decide (¬ (x == m) = true)) (hn.filter _) fun x hx => by
      obtain ⟨a, b⟩ := List.mem_filter.mp hx
      have := h x a
      have : x ≠ m := by simpa using b
      omega
    rw [List.countP_eq_length_filter (p := fun a => decide (¬ (a == m) = true))] at h1
    omega
theorem FdN.len {m : Nat} {f : Fd} (h : FdN m f) : f.length ≤ m := by
  have := nd_len m (f.map (·.1)) h.nd fun x hx => by
    obtain ⟨p, hp, rfl⟩ := List.mem_map.mp hx
    exact h.lt p hp
  rw [List.length_map] at this
  exact this
theorem FdN.step {w : Way} {l : Log} {row : List Nat} {m : Nat} {f : Fd} {n : Nat} (h : FdN m f) (h2 : n < m) : FdN m (stepN w l row f n) := by
  unfold stepN
  split
  · exact h.put h2
  · exact h
end Sb
end
section
set_option Elab.async false
set_option linter.all false
set_option maxRecDepth 100000
set_option maxHeartbeats 4000000
/-! Ev7: the chain that is told, in order. -/
namespace Sb
open PySem PySem.Spec L2
open PyProof.Rows hiding St

def gIn : Sm := (seqS (asgS 6 (eTup (aS (eV 4) (aC (eV 5) aN))))
      (seqS (ifS (fAnd (fT (eF m_is_chain_in (aC (eV 0) (aC (eV 1) (aC (eV 6) aN))))) (fOr (fT (eDNi (eV 5) (eV 3))) (fT (e2 pyLt (e2 pyIx (eDGet (eV 3) (eV 5)) (eC (.int 0))) (e2 pyIx (eV 4) (eC (.int 0)))))))
        (seqS (dpuS 3 (eV 5) (eV 6))
        nextS)
        nextS)
      nextS))
theorem gIn_run {w : Way} {l : Log} {rows : PyData} {row : List Nat} {f : Fd} {n : Nat} {z : Sl} (r : RowOk l row) (fo : FdOk l f) (fn : FdN l.length f) (h4 : w.st.length ≤ 4) (hp : w.ps ≠ .any) (h1 : ls row < n) (h2 : n < l.length) :
    gIn [.dat (eW w), .dat (eL l), .dat rows, .own (.dict (eFd f)), .dat (eR row), .dat (.int ((n : Nat) : Int)), z] = some (.nx [.dat (eW w), .dat (eL l), .dat rows, .own (.dict (eFd (stepN w l row f n))), .dat (eR row), .dat (.int ((n : Nat) : Int)), .dat (eR (row ++ [n]))]) := by
  have hll := r.ll
  have r2 := r.snoc h1 h2
  have hl2 := r2.len
  have k1 : cap ((ri row).map PyData.int ++ [.int ((n : Nat) : Int)]) = some ((ri row).map .int ++ [.int ((n : Nat) : Int)]) := cap_ok (by simp [ri] at *; omega)
  have hc := ev_is_chain_in w r2 h4 hp
  have hfl := fn.len
  have fl : (eFd f).length < 100000 := by rw [eFd_len]; omega
  unfold gIn stepN keepB
  cases hb : chainB w l (row ++ [n]) with
  | false => simp [k1, eR_snoc, hc, hb]
  | true =>
    cases hg : getN f n with
    | none =>
      have v : valI (eFd f) ((n : Nat) : Int) = none := by rw [valI_eFd, hg]; rfl
      simp [k1, eR_snoc, hc, hb, eDNi, dic?, v, dpuS, dicS, fl, putI_eFd]
    | some q =>
      have v : valI (eFd f) ((n : Nat) : Int) = some (eR q) := by rw [valI_eFd, hg]; rfl
      have rq := fo.get hg
      by_cases hh : hd q < hd row
      · have hh' : ((hd q : Nat) : Int) < hd row := by omega
        simp [k1, eR_snoc, hc, hb, eDNi, eDGet, dic?, v, dpuS, dicS, fl, putI_eFd, eR_0 _ rq.ne, eR_0 _ r.ne, hh]
      · have hh' : ¬ ((hd q : Nat) : Int) < hd row := by omega
        simp [k1, eR_snoc, hc, hb, eDNi, eDGet, dic?, v, dpuS, dicS, fl, putI_eFd, eR_0 _ rq.ne, eR_0 _ r.ne, hh]
theorem fold_ok {w : Way} {l : Log} {row : List Nat} (r : RowOk l row) : ∀ (ns : List Nat) (f : Fd), (∀ n ∈ ns, ls row < n ∧ n < l.length) → FdOk l f → FdN l.length f → FdOk l (ns.foldl (stepN w l row) f) ∧ FdN l.length (ns.foldl (stepN w l row) f)
  | [], f, _, a, b => ⟨a, b⟩
  | n :: ns, f, h, a, b => by
    have hn := h n List.mem_cons_self
    exact fold_ok r ns _ (fun m hm => h m (List.mem_cons_of_mem _ hm)) (a.step r hn.1 hn.2) (b.step hn.2)
theorem gIn_loop {w : Way} {l : Log} {rows : PyData} {row : List Nat} (r : RowOk l row) (h4 : w.st.length ≤ 4) (hp : w.ps ≠ .any) : ∀ (ns : List Nat) (f : Fd) (y z : Sl), (∀ n ∈ ns, ls row < n ∧ n < l.length) → FdOk l f → FdN l.length f →
    ∃ y' z', loopS (sg1 5) gIn (ns.map fun n => .int ((n : Nat) : Int)) [.dat (eW w), .dat (eL l), .dat rows, .own (.dict (eFd f)), .dat (eR row), y, z] = some (.nx [.dat (eW w), .dat (eL l), .dat rows, .own (.dict (eFd (ns.foldl (stepN w l row) f))), .dat (eR row), y', z'])
  | [], f, y, z, _, _, _ => ⟨y, z, rfl⟩
  | n :: ns, f, y, z, h, fo, fn => by
    have hn := h n List.mem_cons_self
    obtain ⟨y', z', ih⟩ := gIn_loop r h4 hp ns (stepN w l row f n) (.dat (.int ((n : Nat) : Int))) (.dat (eR (row ++ [n]))) (fun m hm => h m (List.mem_cons_of_mem _ hm)) (fo.step r hn.1 hn.2) (fn.step hn.2)
    refine ⟨y', z', ?_⟩
    rw [List.map_cons, loopS_cons, List.foldl_cons, ← ih]
    show (gIn [.dat (eW w), .dat (eL l), .dat rows, .own (.dict (eFd f)), .dat (eR row), .dat (.int ((n : Nat) : Int)), z]).bind _ = _
    rw [gIn_run r fo fn h4 hp hn.1 hn.2]
    rfl
def gOut : Sm := (seqS (forS (iR2 (e2 pyAdd (e2 pyIx (eV 4) (e1 pyNeg (eC (.int 1)))) (eC (.int 1))) (eF pyLen (aC (eV 1) aN))) (sg1 5) gIn) nextS)
theorem rowN_ok {w : Way} {l : Log} {row : List Nat} (r : RowOk l row) (f : Fd) (fo : FdOk l f) (fn : FdN l.length f) : FdOk l (rowN w l f row) ∧ FdN l.length (rowN w l f row) :=
  fold_ok r _ f (fun n hn => by have := mem_spN.mp hn; omega) fo fn
theorem gOut_loop {w : Way} {l : Log} {rows : PyData} (h4 : w.st.length ≤ 4) (hp : w.ps ≠ .any) : ∀ (rs : List (List Nat)) (f : Fd) (x y z : Sl), (∀ r ∈ rs, RowOk l r) → FdOk l f → FdN l.length f →
    ∃ x' y' z', loopS (sg1 4) gOut (rs.map eR) [.dat (eW w), .dat (eL l), .dat rows, .own (.dict (eFd f)), x, y, z] = some (.nx [.dat (eW w), .dat (eL l), .dat rows, .own (.dict (eFd (rs.foldl (rowN w l) f))), x', y', z'])
  | [], f, x, y, z, _, _, _ => ⟨x, y, z, rfl⟩
  | row :: rs, f, x, y, z, h, fo, fn => by
    have r := h row List.mem_cons_self
    have hla := r.last
    have hll := r.ll
    obtain ⟨a, b⟩ := rowN_ok (w := w) r f fo fn
    obtain ⟨y1, z1, h1⟩ := gIn_loop (rows := rows) r h4 hp (spN (ls row + 1) l.length) f y z (fun n hn => by have := mem_spN.mp hn; omega) fo fn
    obtain ⟨x', y', z', ih⟩ := gOut_loop (rows := rows) h4 hp rs (rowN w l f row) (.dat (eR row)) y1 z1 (fun m hm => h m (List.mem_cons_of_mem _ hm)) a b
    refine ⟨x', y', z', ?_⟩
    rw [List.map_cons, loopS_cons, List.foldl_cons, ← ih]
    have rr : (-100000 ≤ ((ls row : Nat) : Int) + 1 ∧ ((ls row : Nat) : Int) + 1 ≤ 100000) ∧ -100000 ≤ ((l.length : Nat) : Int) ∧ ((l.length : Nat) : Int) ≤ 100000 := by omega
    have e1 : (((l.length : Nat) : Int) - (((ls row : Nat) : Int) + 1)).toNat = l.length - (ls row + 1) := by omega
    have e2 := range_sp (ls row + 1) l.length
    rw [show (((ls row + 1 : Nat)) : Int) = ((ls row : Nat) : Int) + 1 by omega] at e2
    simp [gOut, eR_last row r.ne, rr, e1, e2, h1, rowN]
theorem ev_one_longer {w : Way} {l : Log} (rs : List (List Nat)) (h4 : w.st.length ≤ 4) (hp : w.ps ≠ .any) (h : ∀ r ∈ rs, RowOk l r) : m_one_longer [eW w, eL l, .list (rs.map eR)] = some (.list ((oneLonger w l rs).map eR)) := by
  obtain ⟨x', y', z', h1⟩ := gOut_loop (rows := .list (rs.map eR)) h4 hp rs [] .no .no .no h (fun _ z => nomatch z) ⟨List.nodup_nil, fun _ z => nomatch z⟩
  have e1 : (eFd (rs.foldl (rowN w l) [])).map (·.2) = (oneLonger w l rs).map eR := by
    unfold eFd oneLonger
    rw [List.map_map, List.map_map]
    rfl
  rw [c_one_longer]
  show (g_one_longer _).bind rtO = _
  have e0 : g_one_longer = seqS (asgN 3 eDic) (seqS (forS (iS (eV 2)) (sg1 4) gOut) (seqS (retS (eVals (eV 3))) nextS)) := rfl
  rw [e0]
  have e3 : (eFd []) = [] := rfl
  rw [e3] at h1
  simp [eDic, h1, eVals, dic?, e1]
theorem rows_fold {w : Way} {l : Log} : ∀ (rs : List (List Nat)) (f : Fd), (∀ r ∈ rs, RowOk l r) → FdOk l f → FdN l.length f → FdOk l (rs.foldl (rowN w l) f) ∧ FdN l.length (rs.foldl (rowN w l) f)
  | [], f, _, a, b => ⟨a, b⟩
  | r :: rs, f, h, a, b => by
    obtain ⟨a', b'⟩ := rowN_ok (w := w) (h r List.mem_cons_self) f a b
    exact rows_fold rs _ (fun m hm => h m (List.mem_cons_of_mem _ hm)) a' b'
theorem oneLonger_ok {w : Way} {l : Log} {rs : List (List Nat)} (h : ∀ r ∈ rs, RowOk l r) : (∀ r ∈ oneLonger w l rs, RowOk l r) ∧ (oneLonger w l rs).length ≤ l.length := by
  obtain ⟨a, b⟩ := rows_fold (w := w) rs [] h (fun _ z => nomatch z) ⟨List.nodup_nil, fun _ z => nomatch z⟩
  refine ⟨fun r hr => ?_, ?_⟩
  · obtain ⟨p, hp, rfl⟩ := List.mem_map.mp hr
    exact a p hp
  · unfold oneLonger
    rw [List.length_map]
    exact b.len

/-! ### chain, in order -/
def rows1 (w : Way) (l : Log) : List (List Nat) := ((List.range l.length).filter fun n => chainB w l [n]).map fun n => [n]
/-- the turns of chain's loop -/
def chainW (w : Way) (l : Log) : Nat → List (List Nat) → Option (List Nat) → Option (Option (List Nat))
  | 0, _, _ => none
  | _ + 1, [], best => some best
  | k + 1, r :: rs, _ => chainW w l k (if r.length < w.st.length then oneLonger w l (r :: rs) else []) (some r)
def eRO : Option (List Nat) → PyData
  | none => .none
  | some r => eR r
theorem shn_eR (r : List Nat) : ShN 1 (eR r) := shn_tuple (shn_ints _)
theorem shn_rows (rs : List (List Nat)) : ShN 2 (.list (rs.map eR)) := shn_list fun d hd => by
  obtain ⟨r, _, rfl⟩ := List.mem_map.mp hd
  exact shn_eR r
theorem ne_rows (rs : List (List Nat)) : pyNe (.list (rs.map eR)) (.list []) = some (.bool (!rs.isEmpty)) := by
  rw [pyNe_nil (shn_rows rs)]
  cases rs <;> rfl
theorem rowOk_1 {l : Log} {n : Nat} (h : n < l.length) (hl : l.length ≤ 1000) : RowOk l [n] := ⟨by simp, by simp, fun m hm => by rw [List.mem_singleton.mp hm]; exact h, hl⟩
def gWh : Sm := (seqS (asgS 4 (e2 pyIx (eV 3) (eC (.int 0))))
    (seqS (asgS 3 (eIf (fT (e2 pyLt (eF pyLen (aC (eV 4) aN)) (eF pyLen (aC (e2 pyIx (eV 0) (eC (.int 0))) aN)))) (eF m_one_longer (aC (eV 0) (aC (eV 1) (aC (eV 3) aN)))) (eLst aN)))
    nextS))
theorem gWh_run {w : Way} {l : Log} (h4 : w.st.length ≤ 4) (hp : w.ps ≠ .any) : ∀ (k : Nat) (rs : List (List Nat)) (b : Option (List Nat)), (∀ r ∈ rs, RowOk l r) →
    whl (fT (e2 pyNe (eV 3) (eLst aN))) gWh k [.dat (eW w), .dat (eL l), .no, .dat (.list (rs.map eR)), .dat (eRO b), .no, .no] = (chainW w l k rs b).map fun o => .nx [.dat (eW w), .dat (eL l), .no, .dat (.list []), .dat (eRO o), .no, .no]
  | 0, rs, b, _ => rfl
  | k + 1, [], b, _ => by
    have := ne_rows []
    unfold whl chainW
    simp at this
    simp [this]
  | k + 1, r :: rs, b, h => by
    have n1 := ne_rows (r :: rs)
    have ol := ev_one_longer (w := w) (r :: rs) h4 hp h
    have ok := oneLonger_ok (w := w) h
    have ih := gWh_run h4 hp k (if r.length < w.st.length then oneLonger w l (r :: rs) else []) (some r) (by
      intro q hq
      split at hq
      · exact ok.1 q hq
      · cases hq)
    unfold whl chainW
    rw [← ih]
    have go : gWh [.dat (eW w), .dat (eL l), .no, .dat (.list ((r :: rs).map eR)), .dat (eRO b), .no, .no] = some (.nx [.dat (eW w), .dat (eL l), .no, .dat (.list ((if r.length < w.st.length then oneLonger w l (r :: rs) else []).map eR)), .dat (eRO (some r)), .no, .no]) := by
      by_cases hl : r.length < w.st.length
      · rw [List.map_cons] at ol
        simp [gWh, eRO, hl, ol]
      · simp [gWh, eRO, hl]
    rw [go]
    simp at n1
    simp [n1]
theorem ev_chain_rows {w : Way} {l : Log} (ok : w.Ok) (lo : LogOk l) (hp : w.ps ≠ .any) {o : Option (List Nat)} (h : chainW w l 20 (rows1 w l) (rows1 w l).head? = some o) : m_chain [eW w, eL l] = some (eRO o) := by
  have h4 := ok.s4
  have hn := lo.n
  have c1 : compL (tg1 5) (fT (eF m_is_chain_in (aC (eV 0) (aC (eV 1) (aC (eTup (aC (eV 5) aN)) aN))))) (eTup (aC (eV 5) aN)) [some (eW w), some (eL l), none, none, none, none, none] ((List.range l.length).map fun n => .int ((n : Nat) : Int))
      = some (((List.range l.length).filter fun n => chainB w l [n]).map fun n => eR [n]) :=
    compL_eq (fun n : Nat => .int ((n : Nat) : Int)) (fun n => chainB w l [n]) (fun n => eR [n]) _ fun n hn' => ⟨_, rfl, by
      have r := rowOk_1 (List.mem_range.mp hn') hn
      have e : PyData.tuple [.int ((n : Nat) : Int)] = eR [n] := rfl
      simp [e, ev_is_chain_in w r h4 hp], fun _ => by
      have e : PyData.tuple [.int ((n : Nat) : Int)] = eR [n] := rfl
      simp [e]⟩
  have e1 : (((List.range l.length).filter fun n => chainB w l [n]).map fun n => eR [n]) = (rows1 w l).map eR := by
    unfold rows1
    rw [List.map_map]
    rfl
  have e0 : rangeD 0 l.length = (List.range l.length).map fun n => PyData.int ((n : Nat) : Int) := by
    unfold rangeD
    simp
  have k1 : cap ((List.range l.length).map fun n => PyData.int ((n : Nat) : Int)) = some ((List.range l.length).map fun n => .int ((n : Nat) : Int)) := cap_ok (by simp; omega)
  have rr : (-100000 : Int) ≤ (l.length : Nat) ∧ ((l.length : Nat) : Int) ≤ 100000 := by omega
  have ro : ∀ r ∈ rows1 w l, RowOk l r := fun r hr => by
    obtain ⟨n, h1, rfl⟩ := List.mem_map.mp hr
    exact rowOk_1 (List.mem_range.mp (List.mem_filter.mp h1).1) hn
  have wh := gWh_run h4 hp 20 (rows1 w l) (rows1 w l).head? ro
  rw [h] at wh
  have n1 := ne_rows (rows1 w l)
  rw [c_chain]
  have e9 : g_chain = seqS (dropS (eF m_need_way (aC (eV 0) aN))) (seqS (dropS (eF m_need_log (aC (eV 1) aN))) (seqS (ifS (fT (e2 pyEq (e2 pyIx (eV 0) (eC (.int 1))) (eC (.str "any"))))
    (seqS (asgS 2 (eF m_longest_any (aC (eV 0) (aC (eV 1) aN))))
    (seqS (retS (eIf (fT (eF pyAll (aC (eLc (iS (eV 2)) (tg1 6) cYes (e2 pyIsN (eV 6) (eC .none)) [6]) aN))) (eC .none) (eV 2)))
    nextS))
    nextS)
    (seqS (asgS 3 (eLc (iR1 (eF pyLen (aC (eV 1) aN))) (tg1 5) (fT (eF m_is_chain_in (aC (eV 0) (aC (eV 1) (aC (eTup (aC (eV 5) aN)) aN))))) (eTup (aC (eV 5) aN)) [5]))
    (seqS (asgS 4 (eIf (fT (e2 pyNe (eV 3) (eLst aN))) (e2 pyIx (eV 3) (eC (.int 0))) (eC .none)))
    (seqS (whl (fT (e2 pyNe (eV 3) (eLst aN))) gWh 20) (seqS (retS (eV 4)) nextS)))))) := rfl
  rw [e9]
  cases hr : rows1 w l with
  | nil =>
    rw [hr] at wh e1 n1
    simp at wh n1
    simp [eRO] at wh
    simp [ev_need_way w ok, ev_need_log l lo, hp, rr, e0, k1, c1, e1, n1, wh]
    rfl
  | cons r rs =>
    rw [hr] at wh e1 n1
    simp at wh n1
    simp [eRO] at wh
    simp [ev_need_way w ok, ev_need_log l lo, hp, rr, e0, k1, c1, e1, n1, wh]
    rfl
end Sb
end
section
set_option Elab.async false
set_option linter.all false
set_option maxRecDepth 100000
set_option maxHeartbeats 4000000
/-! Ev8: the law's own look at a row. -/
namespace Sb
open PySem PySem.Spec L2
open PyProof.Rows hiding St

theorem ev_law_when (l : Log) (h : l.length ≤ 1000) : m_law_when [eL l] = some (.list ((times l).map .int)) := by
  have key : ∀ (l2 : Log) (p : List Int × Int) (y z : Sl) (d0 : PyData), p.1.length + l2.length ≤ 1000 → ∃ y' z', loopS (sgN [3, 4]) (seqS (asgS 2 (e2 pyAdd (eV 2) (eV 3))) (seqS (appS 1 (eV 2)) nextS)) (l2.map eEv) [.dat d0, .own (.list (p.1.map .int)), .dat (.int p.2), y, z]
      = some (.nx [.dat d0, .own (.list ((l2.foldl (fun (p : List Int × Int) e => (p.1 ++ [p.2 + e.1], p.2 + e.1)) p).1.map .int)), .dat (.int (l2.foldl (fun (p : List Int × Int) e => (p.1 ++ [p.2 + e.1], p.2 + e.1)) p).2), y', z']) := by
    intro l2
    induction l2 with
    | nil => exact fun p y z d0 _ => ⟨y, z, rfl⟩
    | cons e r ih =>
      intro p y z d0 hp
      rw [List.length_cons] at hp
      obtain ⟨y', z', h2⟩ := ih (p.1 ++ [p.2 + e.1], p.2 + e.1) (.dat (.int e.1)) (.dat (.int e.2)) d0 (by simp; omega)
      refine ⟨y', z', ?_⟩
      rw [List.map_cons, loopS_cons, List.foldl_cons, ← h2]
      simp [eEv, show p.1.length < 100000 by omega]
  obtain ⟨y', z', h2⟩ := key l ([], 0) .no .no (eL l) (by simpa using h)
  rw [c_law_when]
  unfold eL at h2 ⊢
  rw [times_fold] at h2
  simp only [List.map_nil, List.nil_append] at h2
  simp [g_law_when, h2, times]
theorem ix_st {w : Way} {j : Nat} (h : j < w.st.length) : pyIx (.tuple (w.st.map eKs)) (.int (j : Nat)) = some (eKs w.st[j]) := by
  rw [pyIx_t, atI_nat, List.getElem?_map, List.getElem?_eq_getElem h]
  rfl
@[simp] theorem pyIn_eKs (k : Int) (ks : List Int) (neg : Bool) : pyIn neg (.int k) (eKs ks) = some (.bool (if neg then !decide (k ∈ ks) else decide (k ∈ ks))) := pyIn_ints k ks neg
theorem stepIx_range (w : Way) (k : Int) : stepIx w k = (List.range w.st.length).filter fun j => decide (k ∈ (w.st[j]?).getD []) := by
  unfold stepIx
  have e : w.st.zipIdx.map (·.2) = List.range w.st.length := by
    rw [List.zipIdx_map_snd, List.range_eq_range']
  rw [← e, List.filter_map, List.filter_congr (q := ((fun j => decide (k ∈ (w.st[j]?).getD [])) ∘ fun x : List Int × Nat => x.2)) fun p hp => ?_]
  rw [List.mem_zipIdx_iff_getElem?] at hp
  show decide (k ∈ p.1) = decide (k ∈ (w.st[p.2]?).getD [])
  rw [hp]
  rfl
theorem ev_law_is_of (w : Way) (h : w.st.length ≤ 4) (k : Int) : m_law_is_of [eW w, .int k] = some (.list ((stepsIn w k).map .int)) := by
  have c1 : compL (tg1 2) (fT (e2 (pyIn false) (eV 1) (e2 pyIx (e2 pyIx (eV 0) (eC (.int 0))) (eV 2)))) (e2 pyAdd (eV 2) (eC (.int 1))) [some (eW w), some (.int k), none] ((List.range w.st.length).map fun n => .int ((n : Nat) : Int))
      = some (((List.range w.st.length).filter fun j => decide (k ∈ (w.st[j]?).getD [])).map fun n => .int ((n : Nat) + 1)) :=
    compL_eq (fun n : Nat => .int ((n : Nat) : Int)) _ (fun n => .int ((n : Nat) + 1)) _ fun n hn => ⟨_, rfl, by
      have hn := List.mem_range.mp hn
      have h1 := ix_st hn
      rw [pyIx_t] at h1
      simp [hn], fun _ => by simp⟩
  have k1 : cap ((List.range w.st.length).map fun n => PyData.int ((n : Nat) : Int)) = some ((List.range w.st.length).map fun n => .int ((n : Nat) : Int)) := cap_ok (by simp; omega)
  have e0 : rangeD 0 w.st.length = (List.range w.st.length).map fun n => PyData.int ((n : Nat) : Int) := by
    unfold rangeD
    simp
  have rr : (-100000 : Int) ≤ (w.st.length : Nat) ∧ ((w.st.length : Nat) : Int) ≤ 100000 := by omega
  have e1 : (stepsIn w k).map PyData.int = ((List.range w.st.length).filter fun j => decide (k ∈ (w.st[j]?).getD [])).map fun n => .int ((n : Nat) + 1) := by
    rw [stepsIn_ix, stepIx_range, List.map_map]
    rfl
  rw [c_law_is_of, e1]
  simp [g_law_is_of, rr, e0, k1, c1]
theorem ne_ones {α : Type} (xs : List α) : pyNe (.list (xs.map fun _ => .int 1)) (.list []) = some (.bool (!xs.isEmpty)) := by
  rw [pyNe_nil (shn_list (n := 0) fun d hd => by
    obtain ⟨_, _, rfl⟩ := List.mem_map.mp hd
    exact shn_int 1)]
  cases xs <;> rfl
theorem eq_ones {α : Type} (xs : List α) : pyEq (.list (xs.map fun _ => .int 1)) (.list []) = some (.bool xs.isEmpty) := by
  rw [pyEq_nil (shn_list (n := 0) fun d hd => by
    obtain ⟨_, _, rfl⟩ := List.mem_map.mp hd
    exact shn_int 1)]
  cases xs <;> rfl
theorem ne_nats (xs : List Nat) : pyNe (.list (xs.map fun n => .int ((n : Nat) : Int))) (.list []) = some (.bool (!xs.isEmpty)) := by
  rw [pyNe_nil (shn_list (n := 0) fun d hd => by
    obtain ⟨_, _, rfl⟩ := List.mem_map.mp hd
    exact shn_int _)]
  cases xs <;> rfl
theorem in_as (p : Ps) : pyIn false (.str p.s) (.tuple [.str "among", .str "strict"]) = some (.bool (decide (p = .among) || decide (p = .strict))) := by
  show (if scd (.str p.s) = true ∧ ([PyData.str "among", .str "strict"]).all scd = true then some (PyData.bool (inD (.str p.s) [.str "among", .str "strict"])) else none) = _
  rw [if_pos ⟨rfl, rfl⟩]
  refine congrArg (fun z => some (PyData.bool z)) ?_
  cases p <;> decide +kernel
theorem fmax_le : ∀ (gs : List Int) (a W : Int), decide (W < gs.foldl max a) = !(decide (a ≤ W) && gs.all fun g => decide (g ≤ W))
  | [], a, W => by
    simp
    by_cases h : W < a <;> simp [h] <;> omega
  | g :: gs, a, W => by
    rw [List.foldl_cons, fmax_le gs (max a g) W, List.all_cons]
    have e : decide (max a g ≤ W) = (decide (a ≤ W) && decide (g ≤ W)) := by
      rw [Bool.eq_iff_iff, Bool.and_eq_true, decide_eq_true_eq, decide_eq_true_eq, decide_eq_true_eq]
      omega
    rw [e]
    cases decide (a ≤ W) <;> cases decide (g ≤ W) <;> rfl
def gapsL (w : Way) (l : Log) (row : List Nat) : List Int := if w.ea = true then (row.zip row.tail).map (fun p => tm l p.2 - tm l p.1) else [tm l (ls row) - tm l (hd row)]
theorem near_gaps (w : Way) (l : Log) (row : List Nat) (h0 : 0 ≤ w.wi) : decide (w.wi < (gapsL w l row).foldl max 0) = !nearF w l row := by
  rw [fmax_le, decide_eq_true h0, Bool.true_and]
  unfold gapsL nearF
  split
  · rw [List.all_map]
    rfl
  · simp
def wrongL (w : Way) (l : Log) (row : List Nat) : List (Nat × Nat) := row.zipIdx.filter fun p => !decide (kd l p.1 ∈ (w.st[p.2]?).getD [])
theorem wrong_from (l : Log) : ∀ (row : List Nat) (st : List (List Int)) (k : Nat), row.length ≤ st.length - k → k ≤ st.length →
    ((row.zipIdx k).filter fun p => !decide (kd l p.1 ∈ (st[p.2]?).getD [])).isEmpty = (row.zip (st.drop k)).all fun p => decide (kd l p.1 ∈ p.2)
  | [], _, _, _, _ => by simp
  | n :: row, st, k, h, hk => by
    rw [List.length_cons] at h
    have hk' : k < st.length := by omega
    have ih := wrong_from l row st (k + 1) (by omega) (by omega)
    rw [List.zipIdx_cons, List.drop_eq_getElem_cons hk', List.zip_cons_cons, List.all_cons, ← ih, List.filter_cons]
    dsimp only
    rw [List.getElem?_eq_getElem hk']
    show (if (!decide (kd l n ∈ st[k])) = true then _ else _ : List (Nat × Nat)).isEmpty = _
    by_cases hm : kd l n ∈ st[k]
    · simp [hm]
    · simp [hm]
theorem wrong_kinds {w : Way} {l : Log} {row : List Nat} (h : row.length ≤ w.st.length) : (wrongL w l row).isEmpty = kindsF w l row := by
  have := wrong_from l row w.st 0 (by omega) (Nat.zero_le _)
  rw [List.drop_zero] at this
  exact this
def earlyL (w : Way) (l : Log) (row : List Nat) : Log := (l.take (hd row)).filter fun e => decide (e.2 ∈ (w.st[0]?).getD [])
theorem one_step (w : Way) (k : Int) : decide (1 ∈ stepsIn w k) = decide (k ∈ (w.st[0]?).getD []) := by
  rw [Bool.eq_iff_iff, decide_eq_true_eq, decide_eq_true_eq, stepsIn_ix, List.mem_map]
  constructor
  · rintro ⟨j, h1, h2⟩
    have hj : j = 0 := by omega
    subst hj
    obtain ⟨ks, h3, h4⟩ := (mem_ix w k 0).mp h1
    rw [h3]
    exact h4
  · intro h
    refine ⟨0, (mem_ix w k 0).mpr ?_, rfl⟩
    cases e : w.st[0]? with
    | none => rw [e] at h; cases h
    | some ks =>
      rw [e] at h
      exact ⟨ks, rfl, h⟩
theorem early_first (w : Way) (l : Log) (row : List Nat) : (!w.fi || (earlyL w l row).isEmpty) = firstF w l row := by
  unfold firstF earlyL
  congr 1
  rw [Bool.eq_iff_iff]
  simp only [List.isEmpty_iff, List.filter_eq_nil_iff, Bool.not_eq_true', List.any_eq_false]
  constructor
  · intro h e he
    rw [one_step]
    exact h e he
  · intro h e he
    have := h e he
    rw [one_step] at this
    exact this
def innA (w : Way) (l : Log) (row : List Nat) : List Nat := (innF row).filter fun n => !decide (stepsIn w (kd l n) = [])
theorem free_inn (w : Way) (l : Log) (row : List Nat) : freeF w l row = !((decide (w.ps = .among) || decide (w.ps = .strict)) && !(if w.ps = .among then innA w l row else innF row).isEmpty) := by
  unfold freeF innA
  cases hp : w.ps with
  | loose => simp
  | any => simp
  | strict =>
    simp
    cases innF row <;> simp
  | among =>
    simp
    rw [Bool.eq_iff_iff]
    simp [List.filter_eq_nil_iff]
theorem ev_law_is_good {l : Log} {row : List Nat} (w : Way) (ok : w.Ok) (r : RowOk l row) (hl : row.length ≤ w.st.length) : m_law_is_good [eW w, eL l, eR row] = some (.bool (goodF w l row)) := by
  have h4 := ok.s4
  have hll := r.ll
  have hlen := r.len
  have hh := r.head
  have hla := r.last
  have s1 := ok.s1
  have ht := ev_law_when l r.ll
  have hw0 := ok.w0
  -- wrong
  have cw : compL (tgN [8, 9]) (fT (e2 (pyIn true) (e2 pyIx (e2 pyIx (eV 1) (eV 9)) (eC (.int 1))) (e2 pyIx (e2 pyIx (eV 0) (eC (.int 0))) (eV 8)))) (eC (.int 1)) [some (eW w), some (eL l), some (eR row), some (.list ((times l).map .int)), none, none, none, none, none, none, none, none, none, none]
      ((row.zipIdx : List (Nat × Nat)).map fun p => .tuple [.int (p.2 : Nat), .int ((p.1 : Nat) : Int)]) = some ((wrongL w l row).map fun _ => .int 1) :=
    compL_eq (α := Nat × Nat) _ (fun p => !decide (kd l p.1 ∈ (w.st[p.2]?).getD [])) (fun _ => .int 1) _ fun p hp => ⟨_, rfl, by
      rw [List.mem_zipIdx_iff_getElem?] at hp
      have h1 := ix_L (r.lt p.1 (List.mem_of_getElem? hp))
      have hj : p.2 < w.st.length := by
        have := (List.getElem?_eq_some_iff.mp hp).1
        omega
      simp [h1, hj, kd], fun _ => by simp⟩
  have kw : cap ((row.zipIdx : List (Nat × Nat)).map fun p => PyData.tuple [.int (p.2 : Nat), .int ((p.1 : Nat) : Int)]) = some ((row.zipIdx : List (Nat × Nat)).map fun p => .tuple [.int (p.2 : Nat), .int ((p.1 : Nat) : Int)]) := cap_ok (by simp; omega)
  have ew : enumFrom 0 ((ri row).map PyData.int) = (row.zipIdx : List (Nat × Nat)).map fun p => PyData.tuple [.int (p.2 : Nat), .int ((p.1 : Nat) : Int)] := by
    rw [eR_eq, enum_map]
  have nw := ne_ones (wrongL w l row)
  -- gaps
  have cg : ∀ x, compL (tgN [10, 11]) cYes (e2 pySub (e2 pyIx (eV 3) (eV 11)) (e2 pyIx (eV 3) (eV 10))) [some (eW w), some (eL l), some (eR row), some (.list ((times l).map .int)), x, none, none, none, none, none, none, none, none, none]
      ((row.zip row.tail).map fun p => .tuple [.int ((p.1 : Nat) : Int), .int ((p.2 : Nat) : Int)]) = some ((row.zip row.tail).map fun p => .int (tm l p.2 - tm l p.1)) := fun x =>
    compL_all _ _ _ fun p hp => ⟨_, rfl, by
      have h1 := tm_at (r.lt _ (zip_mem_fst hp))
      have h2 := tm_at (r.lt _ (List.mem_of_mem_tail (zip_mem_snd hp)))
      simp [h1, h2]⟩
  have kg : cap ((row.zip row.tail).map fun p => PyData.tuple [.int ((p.1 : Nat) : Int), .int ((p.2 : Nat) : Int)]) = some ((row.zip row.tail).map fun p => .tuple [.int ((p.1 : Nat) : Int), .int ((p.2 : Nat) : Int)]) := cap_ok (by simp; omega)
  have z1 : pySl (some 1) none (eR row) = some (.tuple ((ri row).map PyData.int).tail) := by
    unfold eR
    simp
  have z2 : zipK (eR row) (.tuple ((ri row).map PyData.int).tail) = some ((row.zip row.tail).map fun p => .tuple [.int ((p.1 : Nat) : Int), .int ((p.2 : Nat) : Int)]) := by
    show some (zipD _ _) = _
    rw [zipD_tail, ri_zip, List.map_map]
    rfl
  have eg : ((row.zip row.tail).map fun p => PyData.int (tm l p.2 - tm l p.1)) = ((row.zip row.tail).map fun p => tm l p.2 - tm l p.1).map .int := by
    rw [List.map_map]
    rfl
  have ag : ∀ gs : List Int, gs.length ≤ 1000 → pyAdd (.list [.int 0]) (.list (gs.map .int)) = some (.list (.int 0 :: gs.map .int)) := fun gs hg => by
    show (if [PyData.int 0].length + (gs.map PyData.int).length ≤ 100000 then some (PyData.list ([.int 0] ++ gs.map .int)) else none) = _
    rw [if_pos (by simp; omega)]
    rfl
  have lg : ((row.zip row.tail).map fun p => tm l p.2 - tm l p.1).length ≤ 1000 := by simp; omega
  have t1 := tm_at r.head
  have t2 := tm_at r.last
  -- inner
  have rr : (-100000 ≤ ((hd row : Nat) : Int) ∧ ((hd row : Nat) : Int) ≤ 100000) ∧ -100000 ≤ ((ls row : Nat) : Int) ∧ ((ls row : Nat) : Int) ≤ 100000 := by omega
  have ki : cap ((spN (hd row) (ls row)).map fun n => PyData.int ((n : Nat) : Int)) = some ((spN (hd row) (ls row)).map fun n => .int ((n : Nat) : Int)) := cap_ok (by rw [List.length_map, spN_len]; omega)
  have ci : ∀ x y, compL (tg1 9) (fT (e2 (pyIn true) (eV 9) (eV 2))) (eV 9) [some (eW w), some (eL l), some (eR row), some (.list ((times l).map .int)), x, y, none, none, none, none, none, none, none, none] ((spN (hd row) (ls row)).map fun n => .int ((n : Nat) : Int))
      = some ((innF row).map fun n => .int ((n : Nat) : Int)) := fun x y =>
    compL_eq (fun n : Nat => .int ((n : Nat) : Int)) (fun n => decide (n ∉ row)) (fun n => .int ((n : Nat) : Int)) _ fun x hx => ⟨_, rfl, by
      have := mem_ri x row
      unfold eR
      simp [this], fun _ => by simp⟩
  have il : (innF row).length ≤ 1000 := by
    have := List.length_filter_le (fun n => decide (n ∉ row)) (spN (hd row) (ls row))
    rw [spN_len] at this
    simp only [innF]
    omega
  have ka : cap ((innF row).map fun n => PyData.int ((n : Nat) : Int)) = some ((innF row).map fun n => .int ((n : Nat) : Int)) := cap_ok (by rw [List.length_map]; omega)
  have ca : ∀ x y, compL (tg1 9) (fT (e2 pyNe (eF m_law_is_of (aC (eV 0) (aC (e2 pyIx (e2 pyIx (eV 1) (eV 9)) (eC (.int 1))) aN))) (eLst aN))) (eV 9) [some (eW w), some (eL l), some (eR row), some (.list ((times l).map .int)), x, y, some (.list ((innF row).map fun n => .int ((n : Nat) : Int))), none, none, none, none, none, none, none] ((innF row).map fun n => .int ((n : Nat) : Int))
      = some ((innA w l row).map fun n => .int ((n : Nat) : Int)) := fun x y =>
    compL_eq (fun n : Nat => .int ((n : Nat) : Int)) (fun n => !decide (stepsIn w (kd l n) = [])) (fun n => .int ((n : Nat) : Int)) _ fun x hx => ⟨_, rfl, by
      have hx' := mem_spN.mp (List.mem_filter.mp hx).1
      have h1 := ix_L (l := l) (n := x) (by omega)
      have h2 := ev_law_is_of w h4 (kd l x)
      unfold kd at h2 ⊢
      simp only [fT_ap, e2_ap, eF_ap, aC_ap, eV_ap, eC_ap, eLst_ap, aN_ap, cap_nil, List.set_cons_succ, List.set_cons_zero, List.getElem?_cons_succ, List.getElem?_cons_zero, Option.join_some, Option.bind_some, Option.map_some, h1, eEv_1, h2, ne_ints, asB_b], fun _ => by simp⟩
  have ni := ne_nats (innF row)
  have na := ne_nats (innA w l row)
  -- early
  have sl : pySl none (some ((hd row : Nat) : Int)) (eL l) = some (.tuple ((l.take (hd row)).map eEv)) := by
    unfold eL
    rw [pySl_t, cut_to _ _ (by rw [List.length_map]; omega), List.map_take]
  have ce : ∀ x y z, compL (tgN [12, 13]) (fT (e2 (pyIn false) (eV 13) (e2 pyIx (e2 pyIx (eV 0) (eC (.int 0))) (eC (.int 0))))) (eC (.int 1)) [some (eW w), some (eL l), some (eR row), some (.list ((times l).map .int)), x, y, z, none, none, none, none, none, none, none] ((l.take (hd row)).map eEv)
      = some ((earlyL w l row).map fun _ => .int 1) := fun x y z =>
    compL_eq eEv (fun e => decide (e.2 ∈ (w.st[0]?).getD [])) (fun _ => .int 1) _ fun e he => ⟨_, rfl, by
      have hj : 0 < w.st.length := by omega
      simp [List.getElem?_eq_getElem hj], fun _ => by simp⟩
  have ke : cap ((l.take (hd row)).map eEv) = some ((l.take (hd row)).map eEv) := cap_ok (by simp; omega)
  have ee := eq_ones (earlyL w l row)
  have kk := wrong_kinds (w := w) (l := l) hl
  have nn := near_gaps w l row hw0
  have ff := free_inn w l row
  have ef := early_first w l row
  rw [c_law_is_good]
  unfold goodF
  rw [← kk, ← ef, ff]
  generalize l.take (hd row) = l2 at *
  have gl : (gapsL w l row).length ≤ 1000 := by
    unfold gapsL
    split
    · exact lg
    · simp
  have agl := ag (gapsL w l row) gl
  unfold gapsL at nn agl
  cases hea : w.ea with
  | true =>
    rw [hea] at nn agl
    simp only [if_true] at nn agl
    simp only [eg] at cg
    clear eg lg gl
    generalize (row.zip row.tail).map (fun p => tm l p.2 - tm l p.1) = gL at *
    cases hk : (wrongL w l row).isEmpty with
    | false => simp [g_law_is_good, ht, ew, kw, cw, z1, z2, kg, cg, hea, nw, hk]
    | true =>
      cases hn : nearF w l row with
      | false =>
        rw [hn] at nn
        have nn' : w.wi < List.foldl max 0 gL := by simpa using nn
        simp [g_law_is_good, ht, ew, kw, cw, z1, z2, kg, cg, hea, nw, hk, agl, pyMax1_l, nn']
      | true =>
        rw [hn] at nn
        have nn' : ¬ w.wi < List.foldl max 0 gL := by simpa using nn
        by_cases hm : w.ps = .among
        · cases hia : (innA w l row).isEmpty with
          | false => simp [g_law_is_good, ht, ew, kw, cw, z1, z2, kg, cg, hea, nw, hk, agl, pyMax1_l, nn', eR_0 row r.ne, eR_last row r.ne, rr, range_sp, ki, ci, hm, ka, ca, in_as, na, hia]
          | true => cases hfi : w.fi <;> simp [g_law_is_good, ht, ew, kw, cw, z1, z2, kg, cg, hea, nw, hk, agl, pyMax1_l, nn', eR_0 row r.ne, eR_last row r.ne, rr, range_sp, ki, ci, hm, ka, ca, in_as, na, hia, sl, ke, ce, hfi, ee]
        · by_cases hs : w.ps = .strict
          · cases hia : (innF row).isEmpty with
            | false => simp [g_law_is_good, ht, ew, kw, cw, z1, z2, kg, cg, hea, nw, hk, agl, pyMax1_l, nn', eR_0 row r.ne, eR_last row r.ne, rr, range_sp, ki, ci, hm, hs, in_as, ni, hia]
            | true => cases hfi : w.fi <;> simp [g_law_is_good, ht, ew, kw, cw, z1, z2, kg, cg, hea, nw, hk, agl, pyMax1_l, nn', eR_0 row r.ne, eR_last row r.ne, rr, range_sp, ki, ci, hm, hs, in_as, ni, hia, sl, ke, ce, hfi, ee]
          · cases hfi : w.fi <;> simp [g_law_is_good, ht, ew, kw, cw, z1, z2, kg, cg, hea, nw, hk, agl, pyMax1_l, nn', eR_0 row r.ne, eR_last row r.ne, rr, range_sp, ki, ci, hm, hs, in_as, sl, ke, ce, hfi, ee]
  | false =>
    rw [hea] at nn agl
    simp only [Bool.false_eq_true, if_false, List.map_cons, List.map_nil, List.foldl_cons, List.foldl_nil] at nn agl
    have mx : pyMax1 [.list [.int 0, .int (tm l (ls row) - tm l (hd row))]] = some (.int (max 0 (tm l (ls row) - tm l (hd row)))) := pyMax1_l 0 [tm l (ls row) - tm l (hd row)]
    cases hk : (wrongL w l row).isEmpty with
    | false => simp [g_law_is_good, ht, ew, kw, cw, z1, z2, kg, cg, hea, nw, hk, eR_0 row r.ne, eR_last row r.ne, t1, t2]
    | true =>
      cases hn : nearF w l row with
      | false =>
        rw [hn] at nn
        have nn' : w.wi < max 0 (tm l (ls row) - tm l (hd row)) := by simpa using nn
        simp [g_law_is_good, ht, ew, kw, cw, z1, z2, kg, cg, hea, nw, hk, eR_0 row r.ne, eR_last row r.ne, t1, t2, agl, mx, nn']
      | true =>
        rw [hn] at nn
        have nn' : ¬ w.wi < max 0 (tm l (ls row) - tm l (hd row)) := by simpa using nn
        by_cases hm : w.ps = .among
        · cases hia : (innA w l row).isEmpty with
          | false => simp [g_law_is_good, ht, ew, kw, cw, z1, z2, kg, cg, hea, nw, hk, t1, t2, agl, mx, nn', eR_0 row r.ne, eR_last row r.ne, rr, range_sp, ki, ci, hm, ka, ca, in_as, na, hia]
          | true => cases hfi : w.fi <;> simp [g_law_is_good, ht, ew, kw, cw, z1, z2, kg, cg, hea, nw, hk, t1, t2, agl, mx, nn', eR_0 row r.ne, eR_last row r.ne, rr, range_sp, ki, ci, hm, ka, ca, in_as, na, hia, sl, ke, ce, hfi, ee]
        · by_cases hs : w.ps = .strict
          · cases hia : (innF row).isEmpty with
            | false => simp [g_law_is_good, ht, ew, kw, cw, z1, z2, kg, cg, hea, nw, hk, t1, t2, agl, mx, nn', eR_0 row r.ne, eR_last row r.ne, rr, range_sp, ki, ci, hm, hs, in_as, ni, hia]
            | true => cases hfi : w.fi <;> simp [g_law_is_good, ht, ew, kw, cw, z1, z2, kg, cg, hea, nw, hk, t1, t2, agl, mx, nn', eR_0 row r.ne, eR_last row r.ne, rr, range_sp, ki, ci, hm, hs, in_as, ni, hia, sl, ke, ce, hfi, ee]
          · cases hfi : w.fi <;> simp [g_law_is_good, ht, ew, kw, cw, z1, z2, kg, cg, hea, nw, hk, t1, t2, agl, mx, nn', eR_0 row r.ne, eR_last row r.ne, rr, range_sp, ki, ci, hm, hs, in_as, sl, ke, ce, hfi, ee]
end Sb
end
section
set_option Elab.async false
set_option linter.all false
set_option maxRecDepth 100000
set_option maxHeartbeats 4000000
/-! Mt1: the mathematics of chains in order: one event more. -/
namespace Sb
open PySem PySem.Spec L2
open PyProof.Rows hiding St

theorem tf_succ : ∀ (l : Log) (t : Int) (n : Nat), n + 1 < l.length → (timesFrom t l).getD (n + 1) 0 = (timesFrom t l).getD n 0 + (at_ l (n + 1)).1
  | [], _, _, h => absurd h (Nat.not_lt_zero _)
  | [_], _, _, h => by simp at h
  | e :: e2 :: r, t, 0, _ => rfl
  | e :: e2 :: r, t, n + 1, h => tf_succ (e2 :: r) (t + e.1) n (by simpa using h)
theorem tm_succ {l : Log} {n : Nat} (h : n + 1 < l.length) : tm l (n + 1) = tm l n + (at_ l (n + 1)).1 := tf_succ l 0 n h
theorem at_mem {l : Log} {n : Nat} (h : n < l.length) : at_ l n ∈ l := List.mem_of_getElem? (at_at h)
theorem tm_mono {l : Log} (lo : LogOk l) {a b : Nat} (h : a ≤ b) (hb : b < l.length) : tm l a ≤ tm l b := by
  induction b with
  | zero => rw [show a = 0 by omega]; exact Int.le_refl _
  | succ b ih =>
    by_cases e : a = b + 1
    · rw [e]; exact Int.le_refl _
    · have h1 := ih (by omega) (by omega)
      have h2 := tm_succ hb
      have h3 := (lo.gk _ (at_mem hb)).1.1
      omega
/-- what a chain's age is told from -/
def ref (w : Way) (s n : Nat) : Nat := if w.ea = true then n else s
/-- a chain that ends at e may go on at n -/
structure Av (w : Way) (l : Log) (e n : Nat) : Prop where
  lt : e < n
  st : w.ps = .strict → n = e + 1
  am : w.ps = .among → ∀ i, e < i → i < n → stepsIn w (kd l i) = []
structure Ext (w : Way) (l : Log) (j s e n : Nat) : Prop where
  av : Av w l e n
  k : kd l n ∈ (w.st[j]?).getD []
  t : tm l n - tm l (ref w s e) ≤ w.wi
theorem zip_snoc (n : Nat) : ∀ (row : List Nat) (st : List (List Int)), row.length < st.length → (row ++ [n]).zip st = row.zip st ++ [(n, (st[row.length]?).getD [])]
  | _, [], h => absurd h (Nat.not_lt_zero _)
  | [], k :: st, _ => by simp
  | x :: row, k :: st, h => by
    rw [List.cons_append, List.zip_cons_cons, zip_snoc n row st (by simpa using h), List.zip_cons_cons, List.length_cons, List.getElem?_cons_succ]
    rfl
theorem zip_tail_snoc (n : Nat) : ∀ (row : List Nat) (h : row ≠ []), (row ++ [n]).zip (row ++ [n]).tail = row.zip row.tail ++ [(row.getLast h, n)]
  | [], h => absurd rfl h
  | [x], _ => rfl
  | x :: y :: r, _ => by
    have ih := zip_tail_snoc n (y :: r) (by simp)
    show (x, y) :: ((y :: r) ++ [n]).zip ((y :: r) ++ [n]).tail = _
    rw [ih]
    rfl
theorem hd_snoc {row : List Nat} (h : row ≠ []) (n : Nat) : hd (row ++ [n]) = hd row := by
  cases row with
  | nil => exact absurd rfl h
  | cons x r => rfl
theorem ls_snoc (row : List Nat) (n : Nat) : ls (row ++ [n]) = n := by
  rw [ls_last (by simp)]
  simp
theorem ls_mem {row : List Nat} (h : row ≠ []) : ls row ∈ row := by
  rw [ls_last h]
  exact List.getLast_mem h
theorem hd_mem {row : List Nat} (h : row ≠ []) : hd row ∈ row := by
  cases row with
  | nil => exact absurd rfl h
  | cons x r => exact List.mem_cons_self
theorem mem_innF {row : List Nat} {m : Nat} : m ∈ innF row ↔ (hd row ≤ m ∧ m < ls row) ∧ m ∉ row := by
  unfold innF
  rw [List.mem_filter, mem_spN, decide_eq_true_eq]
theorem inn_snoc {l : Log} {row : List Nat} {n : Nat} (r : RowOk l row) (h1 : ls row < n) (m : Nat) : m ∈ innF (row ++ [n]) ↔ m ∈ innF row ∨ (ls row < m ∧ m < n) := by
  rw [mem_innF, mem_innF, hd_snoc r.ne, ls_snoc]
  have hl := head_le_last r.up r.ne
  have hh := hl _ (hd_mem r.ne)
  have hm := ls_mem r.ne
  constructor
  · rintro ⟨⟨a, b⟩, c⟩
    have c' : m ∉ row := fun q => c (List.mem_append_left _ q)
    by_cases e : m = ls row
    · exact absurd (e ▸ hm) c'
    · by_cases e2 : m < ls row
      · exact .inl ⟨⟨a, e2⟩, c'⟩
      · exact .inr ⟨by omega, b⟩
  · rintro (⟨⟨a, b⟩, c⟩ | ⟨a, b⟩)
    · refine ⟨⟨a, by omega⟩, fun q => ?_⟩
      rcases List.mem_append.mp q with q | q
      · exact c q
      · rw [List.mem_singleton] at q
        omega
    · refine ⟨⟨by omega, b⟩, fun q => ?_⟩
      rcases List.mem_append.mp q with q | q
      · have := (hl _ q).2
        omega
      · rw [List.mem_singleton] at q
        omega
theorem free_snoc {w : Way} {l : Log} {row : List Nat} {n : Nat} (r : RowOk l row) (h1 : ls row < n) : freeF w l (row ++ [n]) = true ↔ freeF w l row = true ∧ Av w l (ls row) n := by
  have im := inn_snoc r h1
  unfold freeF
  by_cases hs : w.ps = .strict
  · rw [if_pos hs, if_pos hs, decide_eq_true_eq, decide_eq_true_eq, List.eq_nil_iff_forall_not_mem, List.eq_nil_iff_forall_not_mem]
    constructor
    · intro h
      refine ⟨fun a ha => h a ((im a).mpr (.inl ha)), h1, fun _ => ?_, fun q => ?_⟩
      · refine Classical.byContradiction fun q => ?_
        exact h (ls row + 1) ((im _).mpr (.inr ⟨by omega, by omega⟩))
      · rw [hs] at q
        cases q
    · rintro ⟨h, av⟩ a ha
      have := av.st hs
      rcases (im a).mp ha with q | ⟨q1, q2⟩
      · exact h a q
      · omega
  · rw [if_neg hs, if_neg hs]
    by_cases hm : w.ps = .among
    · rw [decide_eq_true hm]
      simp only [Bool.not_true, Bool.false_or, Bool.not_eq_true', List.any_eq_false, Bool.not_eq_eq_eq_not, decide_eq_false_iff_not, Bool.not_eq_false]
      simp only [Bool.not_true, decide_eq_false_iff_not, Classical.not_not, decide_eq_true_eq]
      constructor
      · intro h
        exact ⟨fun a ha => h a ((im a).mpr (.inl ha)), h1, fun q => absurd q hs, fun _ i a b => h i ((im i).mpr (.inr ⟨a, b⟩))⟩
      · rintro ⟨h, av⟩ a ha
        rcases (im a).mp ha with q | ⟨q1, q2⟩
        · exact h a q
        · exact av.am hm a q1 q2
    · rw [decide_eq_false hm]
      simp only [Bool.not_false, Bool.true_or, true_and, true_iff]
      exact ⟨h1, fun q => absurd q hs, fun q => absurd q hm⟩
theorem near_snoc {w : Way} {l : Log} {row : List Nat} {n : Nat} (lo : LogOk l) (r : RowOk l row) (h1 : ls row < n) (h2 : n < l.length) : nearF w l (row ++ [n]) = true ↔ nearF w l row = true ∧ tm l n - tm l (ref w (hd row) (ls row)) ≤ w.wi := by
  unfold nearF ref
  by_cases he : w.ea = true
  · rw [if_pos he, if_pos he, if_pos he, zip_tail_snoc n row r.ne, List.all_append, Bool.and_eq_true]
    simp [ls_last r.ne]
  · rw [if_neg he, if_neg he, if_neg he, hd_snoc r.ne, ls_snoc, decide_eq_true_eq, decide_eq_true_eq]
    have := tm_mono lo (Nat.le_of_lt h1) h2
    constructor
    · intro h
      exact ⟨by omega, h⟩
    · exact fun h => h.2
theorem chain_snoc {w : Way} {l : Log} {row : List Nat} {n : Nat} (lo : LogOk l) (r : RowOk l row) (h1 : ls row < n) (h2 : n < l.length) : chainB w l (row ++ [n]) = true ↔ chainB w l row = true ∧ Ext w l row.length (hd row) (ls row) n := by
  unfold chainB goodF
  have hf : firstF w l (row ++ [n]) = firstF w l row := by
    unfold firstF
    rw [hd_snoc r.ne]
  simp only [Bool.and_eq_true, hf, near_snoc lo r h1 h2, free_snoc r h1, List.length_append, List.length_singleton, decide_eq_true_eq]
  constructor
  · rintro ⟨a, b, ⟨c, d⟩, ⟨e, f⟩, g⟩
    unfold kindsF at b
    rw [zip_snoc n row w.st (by omega), List.all_append, Bool.and_eq_true] at b
    exact ⟨⟨by omega, b.1, c, e, g⟩, f, by simpa using b.2, d⟩
  · rintro ⟨⟨a, b, c, e, g⟩, f, k, d⟩
    have hl : row.length < w.st.length := by
      refine Classical.byContradiction fun q => ?_
      rw [List.getElem?_eq_none (by omega)] at k
      cases k
    refine ⟨by omega, ?_, ⟨c, d⟩, ⟨e, f⟩, g⟩
    unfold kindsF
    rw [zip_snoc n row w.st hl, List.all_append, Bool.and_eq_true]
    exact ⟨b, by simpa using k⟩
/-- an event may begin a chain -/
structure One (w : Way) (l : Log) (n : Nat) : Prop where
  k : kd l n ∈ (w.st[0]?).getD []
  f : w.fi = true → ∀ i, i < n → kd l i ∉ (w.st[0]?).getD []
theorem take_any {l : Log} {n : Nat} (h : n < l.length) (p : Int × Int → Bool) : (l.take n).any p = true ↔ ∃ i, i < n ∧ p (at_ l i) = true := by
  rw [List.any_eq_true]
  constructor
  · rintro ⟨e, h1, h2⟩
    obtain ⟨i, hi⟩ := List.getElem?_of_mem h1
    have hl := (List.getElem?_eq_some_iff.mp hi).1
    rw [List.length_take] at hl
    rw [List.getElem?_take_of_lt (by omega), at_at (by omega)] at hi
    exact ⟨i, by omega, by rw [Option.some.inj hi]; exact h2⟩
  · rintro ⟨i, h1, h2⟩
    refine ⟨at_ l i, ?_, h2⟩
    refine List.mem_of_getElem? (i := i) ?_
    rw [List.getElem?_take_of_lt h1, at_at (by omega)]
theorem chain_one {w : Way} {l : Log} {n : Nat} (ok : w.Ok) (h : n < l.length) : chainB w l [n] = true ↔ One w l n := by
  have s1 := ok.s1
  have hk : kindsF w l [n] = decide (kd l n ∈ (w.st[0]?).getD []) := by
    unfold kindsF
    cases hs : w.st with
    | nil => rw [hs] at s1; simp at s1
    | cons k st => simp
  have hi : innF [n] = [] := by
    unfold innF spN
    simp [hd, ls]
  have hn : nearF w l [n] = true := by
    unfold nearF
    split
    · rfl
    · have := ok.w0
      simp [hd, ls]
      exact this
  have hf : freeF w l [n] = true := by
    unfold freeF
    rw [hi]
    split <;> simp
  unfold chainB goodF
  rw [hk, hn, hf, Bool.true_and, Bool.true_and]
  simp only [Bool.and_eq_true, decide_eq_true_eq, List.length_singleton]
  have h9 : firstF w l [n] = true ↔ (w.fi = true → ∀ i, i < n → kd l i ∉ (w.st[0]?).getD []) := by
    unfold firstF
    rw [Bool.or_eq_true, Bool.not_eq_true', Bool.not_eq_true', ← Bool.not_eq_true]
    rw [show hd [n] = n from rfl, ← Bool.not_eq_true, take_any h]
    simp only [one_step, decide_eq_true_eq]
    constructor
    · rintro (a | a) b i hi q
      · exact a b
      · exact a ⟨i, hi, q⟩
    · intro a
      by_cases b : w.fi = true
      · exact .inr fun ⟨i, hi, q⟩ => a b i hi q
      · exact .inl b
  rw [h9]
  exact ⟨fun ⟨a, b, c⟩ => ⟨b, c⟩, fun ⟨b, c⟩ => ⟨s1, b, c⟩⟩
/-- there is a chain of j steps that begins at s and ends at n -/
def Kc (w : Way) (l : Log) (j s n : Nat) : Prop := ∃ row, RowOk l row ∧ chainB w l row = true ∧ row.length = j ∧ hd row = s ∧ ls row = n
theorem RowOk.init {l : Log} {row : List Nat} {n : Nat} (r : RowOk l (row ++ [n])) (h : row ≠ []) : RowOk l row ∧ ls row < n ∧ n < l.length := by
  have hp := List.pairwise_append.mp r.up
  exact ⟨⟨h, hp.1, fun m hm => r.lt m (List.mem_append_left _ hm), r.ll⟩, hp.2.2 _ (ls_mem h) n (List.mem_singleton.mpr rfl), r.lt n (List.mem_append_right _ (List.mem_singleton.mpr rfl))⟩
theorem kc_one {w : Way} {l : Log} {s n : Nat} (ok : w.Ok) (lo : LogOk l) : Kc w l 1 s n ↔ s = n ∧ n < l.length ∧ One w l n := by
  constructor
  · rintro ⟨row, r, c, h1, h2, h3⟩
    match row, h1 with
    | [x], _ =>
      have hx := r.lt x List.mem_cons_self
      rw [chain_one ok hx] at c
      have e1 : x = s := h2
      have e2 : x = n := h3
      subst e1; subst e2
      exact ⟨rfl, hx, c⟩
  · rintro ⟨rfl, h, c⟩
    exact ⟨[s], rowOk_1 h lo.n, (chain_one ok h).mpr c, rfl, rfl, rfl⟩
theorem kc_succ {w : Way} {l : Log} {j s n : Nat} (lo : LogOk l) (hj : 1 ≤ j) : Kc w l (j + 1) s n ↔ n < l.length ∧ ∃ e, Kc w l j s e ∧ Ext w l j s e n := by
  constructor
  · rintro ⟨row, r, c, h1, h2, h3⟩
    have hne : row.dropLast ≠ [] := fun q => by
      have := congrArg List.length q
      rw [List.length_dropLast, List.length_nil] at this
      omega
    have e := List.dropLast_concat_getLast r.ne
    rw [← ls_last r.ne, h3] at e
    generalize row.dropLast = row' at *
    subst e
    obtain ⟨r', a, b⟩ := r.init hne
    obtain ⟨c', x⟩ := (chain_snoc lo r' a b).mp c
    rw [hd_snoc hne] at h2
    have hl : row'.length = j := by simpa using h1
    subst hl; subst h2
    exact ⟨b, ls row', ⟨row', r', c', rfl, rfl, rfl⟩, x⟩
  · rintro ⟨b, e, ⟨row, r, c, h1, h2, h3⟩, x⟩
    subst h1; subst h2; subst h3
    exact ⟨row ++ [n], r.snoc x.av.lt b, (chain_snoc lo r x.av.lt b).mpr ⟨c, x⟩, by simp, hd_snoc r.ne n, ls_snoc row n⟩
theorem kc_le {w : Way} {l : Log} {j s n : Nat} (h : Kc w l j s n) : 1 ≤ j ∧ j ≤ w.st.length ∧ s ≤ n ∧ n < l.length := by
  obtain ⟨row, r, c, h1, h2, h3⟩ := h
  subst h1; subst h2; subst h3
  refine ⟨?_, ?_, (head_le_last r.up r.ne _ (hd_mem r.ne)).2, r.last⟩
  · have := r.ne
    cases row with
    | nil => exact absurd rfl this
    | cons x y => simp
  · unfold chainB at c
    rw [Bool.and_eq_true, decide_eq_true_eq] at c
    exact c.1
end Sb
end
section
set_option Elab.async false
set_option linter.all false
set_option maxRecDepth 100000
set_option maxHeartbeats 4000000
/-! Mt2: the standing behind m events says the longest chain and the least ages (in order). -/
namespace Sb
open PySem PySem.Spec L2
open PyProof.Rows hiding St

/-- the least of a set of ages, if it is within the window -/
def LeastA (S : Int → Prop) (W : Int) : Age → Prop
  | none => ∀ a, S a → W < a
  | some a => S a ∧ a ≤ W ∧ ∀ b, S b → a ≤ b
theorem LeastA.congr {S T : Int → Prop} {W : Int} {x : Age} (h : LeastA S W x) (e : ∀ a, S a ↔ T a) : LeastA T W x := by
  cases x with
  | none => exact fun a ha => h a ((e a).mpr ha)
  | some a => exact ⟨(e a).mp h.1, h.2.1, fun b hb => h.2.2 b ((e b).mpr hb)⟩
theorem LeastA.grow {S : Int → Prop} {W g : Int} {x : Age} (h : LeastA S W x) (hg : 0 ≤ g) : LeastA (fun a => S (a - g)) W (growA g W x) := by
  cases x with
  | none =>
    intro a ha
    have := h _ ha
    omega
  | some a =>
    obtain ⟨h1, h2, h3⟩ := h
    unfold growA
    rw [Option.bind_some]
    split
    · intro b hb
      have := h3 _ hb
      omega
    · refine ⟨by show S (a + g - g); rw [Int.add_sub_cancel]; exact h1, by omega, fun b hb => ?_⟩
      have := h3 _ hb
      omega
theorem LeastA.lesser {S T : Int → Prop} {W : Int} {x y : Age} (h : LeastA S W x) (h' : LeastA T W y) : LeastA (fun a => S a ∨ T a) W (lesserA x y) := by
  cases x with
  | none =>
    cases y with
    | none => exact fun a ha => ha.elim (h a) (h' a)
    | some b => exact ⟨.inr h'.1, h'.2.1, fun c hc => hc.elim (fun q => by have := h c q; have := h'.2.1; omega) (h'.2.2 c)⟩
  | some a =>
    cases y with
    | none => exact ⟨.inl h.1, h.2.1, fun c hc => hc.elim (h.2.2 c) (fun q => by have := h' c q; have := h.2.1; omega)⟩
    | some b =>
      obtain ⟨a1, a2, a3⟩ := h
      obtain ⟨b1, b2, b3⟩ := h'
      show LeastA _ _ (some (min a b))
      refine ⟨?_, by omega, fun c hc => ?_⟩
      · rw [Int.min_def]
        split
        · exact .inl a1
        · exact .inr b1
      · rcases hc with q | q
        · have := a3 c q; omega
        · have := b3 c q; omega
/-- the time after m events -/
def Tm (l : Log) (m : Nat) : Int := if m = 0 then 0 else tm l (m - 1)
theorem Tm_succ {l : Log} {m : Nat} (h : m < l.length) : Tm l (m + 1) = Tm l m + (at_ l m).1 := by
  unfold Tm
  rw [if_neg (by omega), Nat.add_sub_cancel]
  cases m with
  | zero =>
    rw [if_pos rfl]
    cases l with
    | nil => exact absurd h (Nat.not_lt_zero _)
    | cons e r => rfl
  | succ m =>
    rw [if_neg (by omega), Nat.add_sub_cancel]
    exact tm_succ h
/-- the ages of the chains of j steps that may go on after m events -/
def Sg (w : Way) (l : Log) (m j : Nat) (a : Int) : Prop := ∃ s e, Kc w l j s e ∧ Av w l e m ∧ a = Tm l m - tm l (ref w s e)
/-- those that end at m itself -/
def Sf (w : Way) (l : Log) (m j : Nat) (a : Int) : Prop := ∃ s, Kc w l j s m ∧ a = tm l m - tm l (ref w s m)
structure StOk (w : Way) (l : Log) (m : Nat) (s : Stg) : Prop where
  len : s.ages.length = w.st.length
  ag : ∀ j, j < w.st.length → LeastA (Sg w l m (j + 1)) w.wi ((s.ages[j]?).join)
  b0 : 0 ≤ s.best
  b1 : s.best = 0 ∨ ∃ j a e, s.best = (j : Nat) ∧ Kc w l j a e ∧ e < m
  b2 : ∀ j a e, Kc w l j a e → e < m → ((j : Nat) : Int) ≤ s.best
  bg : s.begun = true ↔ ∃ i, i < m ∧ kd l i ∈ (w.st[0]?).getD []
theorem first_ok (w : Way) (l : Log) : StOk w l 0 (firstS w) := by
  refine ⟨by simp [firstS], fun j hj => ?_, Int.le_refl 0, .inl rfl, fun j a e _ h => absurd h (Nat.not_lt_zero _), ?_⟩
  · have : ((firstS w).ages[j]?).join = none := by simp [firstS, List.getElem?_replicate, hj]
    rw [this]
    rintro a ⟨s, e, _, av, _⟩
    exact absurd av.lt (Nat.not_lt_zero _)
  · simp [firstS]
theorem steps_nil (w : Way) (k : Int) : stepsIn w k = [] ↔ ∀ j : Nat, k ∉ (w.st[j]?).getD [] := by
  rw [stepsIn_ix, List.map_eq_nil_iff, List.eq_nil_iff_forall_not_mem]
  constructor
  · intro h j hj
    refine h j ((mem_ix w k j).mpr ?_)
    cases e : w.st[j]? with
    | none => rw [e] at hj; cases hj
    | some ks => rw [e] at hj; exact ⟨ks, rfl, hj⟩
  · intro h j hj
    obtain ⟨ks, h1, h2⟩ := (mem_ix w k j).mp hj
    refine h j ?_
    rw [h1]
    exact h2
theorem kc_kind {w : Way} {l : Log} {j s n : Nat} (ok : w.Ok) (lo : LogOk l) (h : Kc w l (j + 1) s n) : kd l n ∈ (w.st[j]?).getD [] := by
  cases j with
  | zero => exact ((kc_one ok lo).mp h).2.2.k
  | succ j =>
    obtain ⟨_, e, _, x⟩ := (kc_succ lo (by omega)).mp h
    exact x.k
theorem cameF_get {w : Way} {b : Bool} {a : List Age} {k : Int} {j : Nat} (hj : j < w.st.length) : ((cameF w b a k)[j]?).join = if k ∈ (w.st[j]?).getD [] then cameAt w b a j else none := by
  unfold cameF
  rw [List.getElem?_map, List.getElem?_zipIdx, List.getElem?_eq_getElem hj]
  simp
theorem fresh_ok {w : Way} {l : Log} {m : Nat} {s : Stg} (ok : w.Ok) (lo : LogOk l) (hm : m < l.length) (st : StOk w l m s) {j : Nat} (hj : j < w.st.length) :
    LeastA (Sf w l m (j + 1)) w.wi (((cameF w s.begun (s.ages.map (growA (at_ l m).1 w.wi)) (kd l m))[j]?).join) := by
  rw [cameF_get hj]
  by_cases hk : kd l m ∈ (w.st[j]?).getD []
  · rw [if_pos hk]
    unfold cameAt
    cases j with
    | zero =>
      rw [if_pos rfl]
      by_cases hf : w.fi = true ∧ s.begun = true
      · rw [if_pos hf]
        rintro a ⟨s', h1, _⟩
        obtain ⟨i, h2, h3⟩ := st.bg.mp hf.2
        exact absurd h3 (((kc_one ok lo).mp h1).2.2.f hf.1 i h2)
      · rw [if_neg hf]
        have hr : ref w m m = m := by unfold ref; split <;> rfl
        refine ⟨⟨m, (kc_one ok lo).mpr ⟨rfl, hm, hk, fun q i hi hi2 => hf ⟨q, st.bg.mpr ⟨i, hi, hi2⟩⟩⟩, by rw [hr, Int.sub_self]⟩, ok.w0, ?_⟩
        rintro b ⟨s', h1, h2⟩
        obtain ⟨h3, _⟩ := (kc_one ok lo).mp h1
        subst h3
        rw [hr, Int.sub_self] at h2
        omega
    | succ j =>
      rw [if_neg (by omega), Nat.add_sub_cancel]
      have hj' : j < w.st.length := by omega
      have ih := (st.ag j hj').grow ((lo.gk _ (at_mem hm)).1.1)
      have e1 : ((s.ages.map (growA (at_ l m).1 w.wi))[j]?).join = growA (at_ l m).1 w.wi ((s.ages[j]?).join) := by
        rw [List.getElem?_map]
        cases s.ages[j]? <;> rfl
      rw [e1]
      have hT : Tm l (m + 1) = tm l m := by
        unfold Tm
        rw [if_neg (by omega), Nat.add_sub_cancel]
      have hT2 := Tm_succ hm
      have e2 : ∀ a, Sg w l m (j + 1) (a - (at_ l m).1) ↔ ∃ s' e, Kc w l (j + 1) s' e ∧ Av w l e m ∧ a = tm l m - tm l (ref w s' e) := fun a => by
        unfold Sg
        constructor <;> rintro ⟨s', e, x1, x2, x3⟩ <;> exact ⟨s', e, x1, x2, by omega⟩
      have ih := ih.congr e2
      generalize growA (at_ l m).1 w.wi ((s.ages[j]?).join) = x at ih
      have go : ∀ a, Sf w l m (j + 1 + 1) a ↔ ∃ s' e, Kc w l (j + 1) s' e ∧ Av w l e m ∧ tm l m - tm l (ref w s' e) ≤ w.wi ∧ a = tm l m - tm l (ref w s' m) := fun a => by
        unfold Sf
        constructor
        · rintro ⟨s', h1, h2⟩
          obtain ⟨_, e, h3, h4⟩ := (kc_succ lo (by omega)).mp h1
          exact ⟨s', e, h3, h4.av, h4.t, h2⟩
        · rintro ⟨s', e, h1, h2, h3, h4⟩
          exact ⟨s', (kc_succ lo (by omega)).mpr ⟨hm, e, h1, h2, hk, h3⟩, h4⟩
      refine LeastA.congr (S := fun a => ∃ s' e, Kc w l (j + 1) s' e ∧ Av w l e m ∧ tm l m - tm l (ref w s' e) ≤ w.wi ∧ a = tm l m - tm l (ref w s' m)) ?_ fun a => (go a).symm
      have hw := ok.w0
      unfold ref at ih ⊢
      by_cases he : w.ea = true
      · simp only [he, if_true] at ih ⊢
        cases x with
        | none =>
          rintro a ⟨s', e, h1, h2, h3, h4⟩
          have := ih _ ⟨s', e, h1, h2, rfl⟩
          omega
        | some y =>
          obtain ⟨⟨s', e, h1, h2, h3⟩, h4, h5⟩ := ih
          show LeastA _ _ (some 0)
          refine ⟨⟨s', e, h1, h2, by omega, by omega⟩, hw, ?_⟩
          rintro b ⟨_, _, _, _, _, h⟩
          omega
      · simp only [he, Bool.false_eq_true, if_false] at ih ⊢
        cases x with
        | none =>
          rintro a ⟨s', e, h1, h2, h3, h4⟩
          have := ih _ ⟨s', e, h1, h2, rfl⟩
          omega
        | some y =>
          obtain ⟨⟨s', e, h1, h2, h3⟩, h4, h5⟩ := ih
          show LeastA _ _ (some y)
          refine ⟨⟨s', e, h1, h2, by omega, by omega⟩, by omega, ?_⟩
          rintro b ⟨s2, e2, a1, a2, a3, a4⟩
          exact h5 b ⟨s2, e2, a1, a2, a4⟩
  · rw [if_neg hk]
    rintro a ⟨s', h1, _⟩
    exact absurd (kc_kind ok lo h1) hk
theorem av_top {w : Way} {l : Log} {m : Nat} : Av w l m (m + 1) := ⟨Nat.lt_succ_self m, fun _ => rfl, fun _ i a b => by omega⟩
theorem foldmax_ge : ∀ (r : List Int) (x : Int), x ≤ r.foldl max x ∧ ∀ y ∈ r, y ≤ r.foldl max x
  | [], x => ⟨Int.le_refl x, fun _ h => nomatch h⟩
  | z :: r, x => by
    obtain ⟨a, b⟩ := foldmax_ge r (max x z)
    rw [List.foldl_cons]
    refine ⟨by omega, fun y hy => ?_⟩
    rcases List.mem_cons.mp hy with rfl | hy
    · omega
    · exact b y hy
theorem foldmax_mem : ∀ (r : List Int) (x : Int), r.foldl max x = x ∨ r.foldl max x ∈ r
  | [], x => .inl rfl
  | z :: r, x => by
    rw [List.foldl_cons]
    rcases foldmax_mem r (max x z) with h | h
    · rw [h, Int.max_def]
      split
      · exact .inr List.mem_cons_self
      · exact .inl rfl
    · exact .inr (List.mem_cons_of_mem _ h)
theorem mem_frIx {fr : List Age} {i : Int} : i ∈ frIx fr ↔ ∃ j a, i = ((j : Nat) : Int) + 1 ∧ (fr[j]?).join = some a := by
  unfold frIx
  rw [List.mem_map]
  constructor
  · rintro ⟨⟨x, j⟩, h, rfl⟩
    obtain ⟨h1, h2⟩ := List.mem_filter.mp h
    rw [List.mem_zipIdx_iff_getElem?] at h1
    obtain ⟨a, ha⟩ := Option.isSome_iff_exists.mp h2
    exact ⟨j, a, rfl, by
      have h1' : fr[j]? = some x := h1
      have ha' : x = some a := ha
      rw [h1', ha']
      rfl⟩
  · rintro ⟨j, a, rfl, h⟩
    refine ⟨(some a, j), List.mem_filter.mpr ⟨?_, rfl⟩, rfl⟩
    rw [List.mem_zipIdx_iff_getElem?]
    cases e : fr[j]? with
    | none => rw [e] at h; cases h
    | some x => rw [e] at h; exact congrArg some h
theorem step_ok {w : Way} {l : Log} {m : Nat} {s : Stg} (ok : w.Ok) (lo : LogOk l) (hp : w.ps ≠ .any) (hm : m < l.length) (st : StOk w l m s) : StOk w l (m + 1) (behindF w s (at_ l m)) := by
  have fr := fun j hj => fresh_ok ok lo hm st (j := j) hj
  have hk : kd l m = (at_ l m).2 := rfl
  have hT : Tm l (m + 1) = tm l m := by
    unfold Tm
    rw [if_neg (by omega), Nat.add_sub_cancel]
  have hT2 := Tm_succ hm
  have gr : ∀ j, j < w.st.length → LeastA (fun a => ∃ s' e, Kc w l (j + 1) s' e ∧ Av w l e m ∧ a = Tm l (m + 1) - tm l (ref w s' e)) w.wi (((s.ages.map (growA (at_ l m).1 w.wi))[j]?).join) := fun j hj => by
    have ih := (st.ag j hj).grow ((lo.gk _ (at_mem hm)).1.1)
    have e1 : ((s.ages.map (growA (at_ l m).1 w.wi))[j]?).join = growA (at_ l m).1 w.wi ((s.ages[j]?).join) := by
      rw [List.getElem?_map]
      cases s.ages[j]? <;> rfl
    rw [e1]
    refine ih.congr fun a => ?_
    unfold Sg
    constructor <;> rintro ⟨s', e, x1, x2, x3⟩ <;> exact ⟨s', e, x1, x2, by omega⟩
  have hcl := cameF_len w s.begun (s.ages.map (growA (at_ l m).1 w.wi)) (kd l m)
  have hgl : (s.ages.map (growA (at_ l m).1 w.wi)).length = w.st.length := by rw [List.length_map, st.len]
  unfold behindF
  rw [if_neg hp, ← hk]
  generalize s.ages.map (growA (at_ l m).1 w.wi) = ga at *
  generalize cameF w s.begun ga (kd l m) = fl at *
  have sfg : ∀ j a, Sg w l (m + 1) j a ↔ (∃ s' e, e < m ∧ Kc w l j s' e ∧ Av w l e (m + 1) ∧ a = Tm l (m + 1) - tm l (ref w s' e)) ∨ Sf w l m j a := fun j a => by
    unfold Sg Sf
    constructor
    · rintro ⟨s', e, x1, x2, x3⟩
      have := x2.lt
      by_cases he : e = m
      · subst he
        exact .inr ⟨s', x1, by omega⟩
      · exact .inl ⟨s', e, by omega, x1, x2, x3⟩
    · rintro (⟨s', e, _, x1, x2, x3⟩ | ⟨s', x1, x2⟩)
      · exact ⟨s', e, x1, x2, x3⟩
      · exact ⟨s', m, x1, av_top, by omega⟩
  have nof : stepsIn w (kd l m) = [] → ∀ j a, ¬ Sf w l m (j + 1) a := fun h j a ⟨s', x1, _⟩ => (steps_nil w _).mp h j (kc_kind ok lo x1)
  refine ⟨?_, fun j hj => ?_, ?_, ?_, ?_, ?_⟩
  · dsimp only
    split
    · rw [List.length_zipWith, hcl, hgl, Nat.min_self]
    · split
      · exact hcl
      · exact hgl
  · dsimp only
    by_cases hl : w.ps = .loose
    · rw [if_pos hl]
      have e1 : ((List.zipWith lesserA ga fl)[j]?).join = lesserA ((ga[j]?).join) ((fl[j]?).join) := by
        rw [List.getElem?_zipWith, List.getElem?_eq_getElem (by omega : j < ga.length), List.getElem?_eq_getElem (by omega : j < fl.length)]
        rfl
      rw [e1]
      refine ((gr j hj).lesser (fr j hj)).congr fun a => ?_
      rw [sfg]
      constructor
      · rintro (⟨s', e, x1, x2, x3⟩ | h)
        · exact .inl ⟨s', e, x2.lt, x1, ⟨by have := x2.lt; omega, fun q => (by rw [hl] at q; cases q), fun q => (by rw [hl] at q; cases q)⟩, x3⟩
        · exact .inr h
      · rintro (⟨s', e, x0, x1, x2, x3⟩ | h)
        · exact .inl ⟨s', e, x1, ⟨x0, fun q => (by rw [hl] at q; cases q), fun q => (by rw [hl] at q; cases q)⟩, x3⟩
        · exact .inr h
    · rw [if_neg hl]
      by_cases hc : w.ps ≠ .among ∨ stepsIn w (kd l m) ≠ []
      · rw [if_pos hc]
        refine (fr j hj).congr fun a => ?_
        rw [sfg]
        constructor
        · exact fun h => .inr h
        · rintro (⟨s', e, x0, x1, x2, x3⟩ | h)
          · exfalso
            by_cases ha : w.ps = .among
            · exact hc.elim (fun q => q ha) fun q => q (x2.am ha m x0 (Nat.lt_succ_self m))
            · have hs : w.ps = .strict := by
                cases h : w.ps with
                | loose => exact absurd h hl
                | among => exact absurd h ha
                | strict => rfl
                | any => exact absurd h hp
              have := x2.st hs
              omega
          · exact h
      · rw [if_neg hc]
        have ha : w.ps = .among := Classical.byContradiction fun q => hc (.inl q)
        have hn : stepsIn w (kd l m) = [] := Classical.byContradiction fun q => hc (.inr q)
        refine (gr j hj).congr fun a => ?_
        rw [sfg]
        constructor
        · rintro ⟨s', e, x1, x2, x3⟩
          refine .inl ⟨s', e, x2.lt, x1, ⟨by have := x2.lt; omega, fun q => (by rw [ha] at q; cases q), fun q i i1 i2 => ?_⟩, x3⟩
          by_cases im : i = m
          · rw [im]; exact hn
          · exact x2.am ha i i1 (by omega)
        · rintro (⟨s', e, x0, x1, x2, x3⟩ | h)
          · exact ⟨s', e, x1, ⟨x0, fun q => (by rw [ha] at q; cases q), fun q i i1 i2 => x2.am ha i i1 (by omega)⟩, x3⟩
          · exact absurd h (nof hn j a)
  · have := (foldmax_ge (frIx fl) s.best).1
    have := st.b0
    dsimp only
    omega
  · dsimp only
    rcases foldmax_mem (frIx fl) s.best with h | h
    · rw [h]
      rcases st.b1 with q | ⟨j, a, e, q1, q2, q3⟩
      · exact .inl q
      · exact .inr ⟨j, a, e, q1, q2, by omega⟩
    · obtain ⟨j, a, h1, h2⟩ := mem_frIx.mp h
      have hj : j < w.st.length := by
        rw [← hcl]
        refine Classical.byContradiction fun q => ?_
        rw [List.getElem?_eq_none (by omega)] at h2
        cases h2
      have := fr j hj
      rw [h2] at this
      obtain ⟨⟨s', x1, _⟩, _⟩ := this
      exact .inr ⟨j + 1, s', m, by rw [h1]; omega, x1, Nat.lt_succ_self m⟩
  · dsimp only
    intro j a e h1 h2
    have hb := foldmax_ge (frIx fl) s.best
    by_cases he : e = m
    · subst he
      obtain ⟨y1, y2, y3, y4⟩ := kc_le h1
      obtain ⟨i, rfl⟩ : ∃ i, j = i + 1 := ⟨j - 1, by omega⟩
      have hi : i < w.st.length := by omega
      have f := fr i hi
      cases hx : (fl[i]?).join with
      | some b => 
        have := hb.2 (((i : Nat) : Int) + 1) (mem_frIx.mpr ⟨i, b, rfl, hx⟩)
        omega
      | none =>
        rw [hx] at f
        have := f _ ⟨a, h1, rfl⟩
        -- a chain that ends here is within its window
        exfalso
        have hnear : tm l e - tm l (ref w a e) ≤ w.wi := by
          obtain ⟨row, r, c, q1, q2, q3⟩ := h1
          subst q2; subst q3
          unfold chainB goodF at c
          simp only [Bool.and_eq_true] at c
          have := c.2.2.1
          unfold nearF at this
          unfold ref
          have hw := ok.w0
          by_cases hea : w.ea = true
          · rw [if_pos hea]
            omega
          · rw [if_neg hea] at this ⊢
            exact of_decide_eq_true this
        omega
    · have := st.b2 j a e h1 (by omega)
      have := hb.1
      omega
  · dsimp only
    rw [Bool.or_eq_true, one_step, decide_eq_true_eq, st.bg]
    constructor
    · rintro (⟨i, h1, h2⟩ | h)
      · exact ⟨i, by omega, h2⟩
      · exact ⟨m, Nat.lt_succ_self m, h⟩
    · rintro ⟨i, h1, h2⟩
      by_cases hi : i = m
      · rw [hi] at h2
        exact .inr h2
      · exact .inl ⟨i, by omega, h2⟩
theorem behind_take {w : Way} {l : Log} {m : Nat} (hm : m < l.length) : behindAll w (l.take (m + 1)) = behindF w (behindAll w (l.take m)) (at_ l m) := by
  unfold behindAll
  rw [List.take_add_one, at_at hm, Option.toList_some, List.foldl_append]
  rfl
theorem behind_ok {w : Way} {l : Log} (ok : w.Ok) (lo : LogOk l) (hp : w.ps ≠ .any) : StOk w l l.length (behindAll w l) := by
  have key : ∀ m, m ≤ l.length → StOk w l m (behindAll w (l.take m)) := by
    intro m
    induction m with
    | zero => exact fun _ => first_ok w l
    | succ m ih =>
      intro h
      rw [behind_take (by omega)]
      exact step_ok ok lo hp (by omega) (ih (by omega))
  have := key l.length (Nat.le_refl _)
  rw [List.take_length] at this
  exact this
/-- the most steps of a chain -/
structure Most (w : Way) (l : Log) (d : Nat) : Prop where
  a : d = 0 ∨ ∃ s n, Kc w l d s n
  b : ∀ j s n, Kc w l j s n → j ≤ d
theorem Most.eq {w : Way} {l : Log} {d d' : Nat} (h : Most w l d) (h' : Most w l d') : d = d' := by
  have : d ≤ d' := by
    rcases h.a with q | ⟨s, n, q⟩
    · omega
    · exact h'.b _ _ _ q
  have : d' ≤ d := by
    rcases h'.a with q | ⟨s, n, q⟩
    · omega
    · exact h.b _ _ _ q
  omega
theorem behind_most {w : Way} {l : Log} (ok : w.Ok) (lo : LogOk l) (hp : w.ps ≠ .any) : ∃ d : Nat, (behindAll w l).best = (d : Nat) ∧ Most w l d := by
  have h := behind_ok ok lo hp
  have b2 : ∀ j a e, Kc w l j a e → ((j : Nat) : Int) ≤ (behindAll w l).best := fun j a e k => h.b2 j a e k (kc_le k).2.2.2
  rcases h.b1 with q | ⟨j, a, e, q1, q2, _⟩
  · exact ⟨0, q, .inl rfl, fun j s n k => by have := b2 j s n k; omega⟩
  · exact ⟨j, q1, .inr ⟨a, e, q2⟩, fun j' s n k => by have := b2 j' s n k; omega⟩
end Sb
end
section
set_option Elab.async false
set_option linter.all false
set_option maxRecDepth 100000
set_option maxHeartbeats 4000000
/-! Mt3: the chain told in order is one of the longest. -/
namespace Sb
open PySem PySem.Spec L2
open PyProof.Rows hiding St

theorem getN_cons (p : Nat × List Nat) (f : Fd) (m : Nat) : getN (p :: f) m = if p.1 = m then some p.2 else getN f m := by
  unfold getN
  rw [List.find?_cons]
  by_cases h : p.1 = m
  · rw [decide_eq_true h, if_pos h]
    rfl
  · rw [decide_eq_false h, if_neg h]
theorem getN_map (n : Nat) (r : List Nat) (m : Nat) : ∀ f : Fd, getN (f.map fun p => if p.1 = n then (p.1, r) else p) m = if m = n then (if (f.any fun p => decide (p.1 = n)) = true then some r else none) else getN f m
  | [] => by simp [getN]
  | p :: f => by
    rw [List.map_cons, getN_cons, getN_map n r m f, getN_cons, List.any_cons]
    by_cases h : p.1 = n
    · subst h
      by_cases hm : m = p.1
      · subst hm
        simp
      · have hm' : ¬ p.1 = m := fun q => hm q.symm
        simp [hm, hm']
    · by_cases hm : m = n
      · subst hm
        rw [if_neg h, if_neg h, if_pos rfl, if_pos rfl]
        have e : decide (p.1 = m) = false := decide_eq_false h
        rw [e, Bool.false_or]
      · simp [h, hm]
theorem getN_app (n : Nat) (r : List Nat) (m : Nat) : ∀ f : Fd, (f.any fun p => decide (p.1 = n)) = false → getN (f ++ [(n, r)]) m = if m = n then some r else getN f m
  | [], _ => by
    rw [List.nil_append, getN_cons]
    by_cases h : m = n
    · subst h
      simp
    · have h' : ¬ n = m := fun q => h q.symm
      simp [h, h', getN]
  | p :: f, h => by
    rw [List.any_cons, Bool.or_eq_false_iff, decide_eq_false_iff_not] at h
    rw [List.cons_append, getN_cons, getN_app n r m f h.2, getN_cons]
    by_cases hm : m = n
    · rw [if_pos hm, if_pos hm, if_neg (fun q => h.1 (q.trans hm))]
    · rw [if_neg hm, if_neg hm]
theorem getN_put (f : Fd) (n : Nat) (r : List Nat) (m : Nat) : getN (putN f n r) m = if m = n then some r else getN f m := by
  unfold putN
  split
  · rename_i h
    rw [getN_map, if_pos h]
  · rename_i h
    exact getN_app n r m f (by rw [← Bool.not_eq_true]; exact h)
def Cov (f : Fd) (m h : Nat) : Prop := ∃ r, getN f m = some r ∧ h ≤ hd r
structure Snd (w : Way) (l : Log) (j : Nat) (f : Fd) : Prop where
  a : ∀ p ∈ f, RowOk l p.2 ∧ chainB w l p.2 = true ∧ p.2.length = j + 1 ∧ ls p.2 = p.1
theorem cov_step {w : Way} {l : Log} {row : List Nat} {f : Fd} {n m h : Nat} (hn : row ≠ []) (c : Cov f m h) : Cov (stepN w l row f n) m h := by
  unfold stepN
  by_cases hk : keepB w l row f n = true
  · rw [if_pos hk]
    obtain ⟨r, h1, h2⟩ := c
    unfold Cov
    rw [getN_put]
    by_cases e : m = n
    · rw [if_pos e]
      refine ⟨_, rfl, ?_⟩
      rw [hd_snoc hn]
      unfold keepB at hk
      rw [← e, h1, Bool.and_eq_true] at hk
      have := of_decide_eq_true hk.2
      omega
    · rw [if_neg e]
      exact ⟨r, h1, h2⟩
  · rw [if_neg hk]
    exact c
theorem cov_new {w : Way} {l : Log} {row : List Nat} {f : Fd} {n : Nat} (hn : row ≠ []) (c : chainB w l (row ++ [n]) = true) : Cov (stepN w l row f n) n (hd row) := by
  unfold stepN
  by_cases hk : keepB w l row f n = true
  · rw [if_pos hk]
    exact ⟨_, by rw [getN_put, if_pos rfl], by rw [hd_snoc hn]; exact Nat.le_refl _⟩
  · rw [if_neg hk]
    unfold keepB at hk
    rw [c, Bool.true_and] at hk
    unfold Cov
    cases e : getN f n with
    | none => rw [e] at hk; exact absurd rfl hk
    | some r =>
      rw [e] at hk
      refine ⟨r, rfl, ?_⟩
      have : ¬ hd r < hd row := fun q => hk (decide_eq_true q)
      omega
theorem mem_putN {f : Fd} {n : Nat} {r : List Nat} {p : Nat × List Nat} (h : p ∈ putN f n r) : p ∈ f ∨ p = (n, r) := by
  unfold putN at h
  split at h
  · obtain ⟨q, hq, rfl⟩ := List.mem_map.mp h
    by_cases e : q.1 = n
    · rw [if_pos e]
      exact .inr (by rw [e])
    · rw [if_neg e]
      exact .inl hq
  · rcases List.mem_append.mp h with h | h
    · exact .inl h
    · exact .inr (List.mem_singleton.mp h)
theorem snd_step {w : Way} {l : Log} {j : Nat} {row : List Nat} {f : Fd} {n : Nat} (r : RowOk l row) (hl : row.length = j) (h1 : ls row < n) (h2 : n < l.length) (s : Snd w l j f) : Snd w l j (stepN w l row f n) := by
  unfold stepN
  by_cases hk : keepB w l row f n = true
  · rw [if_pos hk]
    unfold keepB at hk
    rw [Bool.and_eq_true] at hk
    refine ⟨fun p hp => ?_⟩
    rcases mem_putN hp with hp | rfl
    · exact s.a p hp
    · exact ⟨r.snoc h1 h2, hk.1, by simp [hl], ls_snoc row n⟩
  · rw [if_neg hk]
    exact s
theorem row_fold {w : Way} {l : Log} {j : Nat} {row : List Nat} (r : RowOk l row) (hl : row.length = j) : ∀ (ns : List Nat) (f : Fd), (∀ n ∈ ns, ls row < n ∧ n < l.length) → Snd w l j f →
    Snd w l j (ns.foldl (stepN w l row) f) ∧ (∀ m h, Cov f m h → Cov (ns.foldl (stepN w l row) f) m h) ∧ (∀ n ∈ ns, chainB w l (row ++ [n]) = true → Cov (ns.foldl (stepN w l row) f) n (hd row))
  | [], f, _, s => ⟨s, fun _ _ c => c, fun _ h => nomatch h⟩
  | n :: ns, f, hns, s => by
    have h0 := hns n List.mem_cons_self
    obtain ⟨a, b, c⟩ := row_fold r hl ns (stepN w l row f n) (fun m hm => hns m (List.mem_cons_of_mem _ hm)) (snd_step r hl h0.1 h0.2 s)
    rw [List.foldl_cons]
    refine ⟨a, fun m h q => b m h (cov_step r.ne q), fun m hm q => ?_⟩
    rcases List.mem_cons.mp hm with rfl | hm
    · exact b _ _ (cov_new r.ne q)
    · exact c m hm q
theorem all_fold {w : Way} {l : Log} {j : Nat} : ∀ (rs : List (List Nat)) (f : Fd), (∀ r ∈ rs, RowOk l r ∧ r.length = j) → Snd w l j f →
    Snd w l j (rs.foldl (rowN w l) f) ∧ (∀ m h, Cov f m h → Cov (rs.foldl (rowN w l) f) m h) ∧ (∀ r ∈ rs, ∀ n, ls r < n → n < l.length → chainB w l (r ++ [n]) = true → Cov (rs.foldl (rowN w l) f) n (hd r))
  | [], f, _, s => ⟨s, fun _ _ c => c, fun _ h => nomatch h⟩
  | r :: rs, f, h, s => by
    have h0 := h r List.mem_cons_self
    obtain ⟨a, b, c⟩ := row_fold (w := w) h0.1 h0.2 (spN (ls r + 1) l.length) f (fun n hn => by have := mem_spN.mp hn; omega) s
    obtain ⟨a', b', c'⟩ := all_fold rs (rowN w l f r) (fun q hq => h q (List.mem_cons_of_mem _ hq)) a
    rw [List.foldl_cons]
    refine ⟨a', fun m h q => b' m h (b m h q), fun q hq n h1 h2 h3 => ?_⟩
    rcases List.mem_cons.mp hq with rfl | hq
    · exact b' _ _ (c n (mem_spN.mpr (by omega)) h3)
    · exact c' q hq n h1 h2 h3
/-- the rows of a turn: chains of j steps, one that begins as late as can be for each end -/
structure Rws (w : Way) (l : Log) (j : Nat) (rs : List (List Nat)) : Prop where
  a : ∀ r ∈ rs, RowOk l r ∧ chainB w l r = true ∧ r.length = j
  b : ∀ s n, Kc w l j s n → ∃ r ∈ rs, ls r = n ∧ s ≤ hd r
theorem rows1_ok {w : Way} {l : Log} (lo : LogOk l) : Rws w l 1 (rows1 w l) := by
  constructor
  · intro r hr
    obtain ⟨n, h1, rfl⟩ := List.mem_map.mp hr
    obtain ⟨h2, h3⟩ := List.mem_filter.mp h1
    exact ⟨rowOk_1 (List.mem_range.mp h2) lo.n, h3, rfl⟩
  · rintro s n ⟨row, r, c, h1, h2, h3⟩
    match row, h1 with
    | [x], _ =>
      have hx := r.lt x List.mem_cons_self
      exact ⟨[x], List.mem_map.mpr ⟨x, List.mem_filter.mpr ⟨List.mem_range.mpr hx, c⟩, rfl⟩, h3, Nat.le_of_eq h2.symm⟩
theorem longer_ok {w : Way} {l : Log} {j : Nat} {rs : List (List Nat)} (lo : LogOk l) (hj : 1 ≤ j) (h : Rws w l j rs) : Rws w l (j + 1) (oneLonger w l rs) := by
  obtain ⟨s, _, c⟩ := all_fold (w := w) (j := j) rs [] (fun r hr => ⟨(h.a r hr).1, (h.a r hr).2.2⟩) ⟨fun _ q => nomatch q⟩
  constructor
  · intro r hr
    obtain ⟨p, hp, rfl⟩ := List.mem_map.mp hr
    obtain ⟨a1, a2, a3, _⟩ := s.a p hp
    exact ⟨a1, a2, a3⟩
  · intro st n k
    obtain ⟨hn, e, k2, x⟩ := (kc_succ lo hj).mp k
    obtain ⟨r, h1, h2, h3⟩ := h.b _ _ k2
    obtain ⟨q1, q2, q3⟩ := h.a r h1
    subst h2
    have x' : Ext w l r.length (hd r) (ls r) n := by
      refine ⟨x.av, by rw [q3]; exact x.k, ?_⟩
      have := x.t
      have hl := q1.last
      have hh := (head_le_last q1.up q1.ne _ (hd_mem q1.ne)).2
      unfold ref at this ⊢
      by_cases he : w.ea = true
      · rw [if_pos he] at this ⊢
        exact this
      · rw [if_neg he] at this ⊢
        have := tm_mono lo h3 (by omega)
        omega
    obtain ⟨r', g1, g2⟩ := c r h1 n x.av.lt hn ((chain_snoc lo q1 x.av.lt hn).mpr ⟨q2, x'⟩)
    obtain ⟨p, g3, rfl⟩ := Option.map_eq_some_iff.mp g1
    have g4 := List.mem_of_find?_eq_some g3
    have g5 := of_decide_eq_true (List.find?_some (p := fun p : Nat × List Nat => decide (p.1 = n)) g3)
    exact ⟨p.2, List.mem_map.mpr ⟨p, g4, rfl⟩, by rw [(s.a p g4).2.2.2, g5], by omega⟩
theorem kc_down {w : Way} {l : Log} (lo : LogOk l) {j : Nat} (hj : 1 ≤ j) : ∀ (i : Nat) {s n : Nat}, Kc w l (j + i) s n → ∃ s n, Kc w l j s n
  | 0, s, n, h => ⟨s, n, h⟩
  | i + 1, s, n, h => by
    obtain ⟨_, e, k, _⟩ := (kc_succ (j := j + i) lo (Nat.le_trans hj (Nat.le_add_right j i))).mp h
    exact kc_down lo hj i k
/-- what chain tells -/
inductive Told (w : Way) (l : Log) : Option (List Nat) → Prop where
  | no : Most w l 0 → Told w l none
  | yes {r : List Nat} : RowOk l r → chainB w l r = true → Most w l r.length → Told w l (some r)
theorem chainW_ok {w : Way} {l : Log} (ok : w.Ok) (lo : LogOk l) : ∀ (k j : Nat) (rs : List (List Nat)) (b : Option (List Nat)), Rws w l j rs → 1 ≤ j → j ≤ 5 → 6 ≤ k + j →
    (rs = [] → (b = none ∧ j = 1) ∨ ∃ r, b = some r ∧ RowOk l r ∧ chainB w l r = true ∧ r.length + 1 = j) → ∃ o, chainW w l k rs b = some o ∧ Told w l o
  | 0, j, rs, b, _, _, h5, h6, _ => by omega
  | k + 1, j, [], b, R, h1, _, _, hb => by
    have no : ∀ j' s n, Kc w l j' s n → j' ≤ j - 1 := fun j' s n q => by
      refine Classical.byContradiction fun z => ?_
      rw [show j' = j + (j' - j) by omega] at q
      obtain ⟨s', n', q'⟩ := kc_down lo h1 _ q
      obtain ⟨r, hr, _⟩ := R.b s' n' q'
      cases hr
    refine ⟨b, rfl, ?_⟩
    rcases hb rfl with ⟨rfl, h⟩ | ⟨r, rfl, a1, a2, a3⟩
    · subst h
      exact .no ⟨.inl rfl, no⟩
    · refine .yes a1 a2 ⟨.inr ⟨hd r, ls r, r, a1, a2, rfl, rfl, rfl⟩, fun j' s n q => ?_⟩
      have := no j' s n q
      omega
  | k + 1, j, r :: rs, b, R, h1, h5, h6, _ => by
    have s4 := ok.s4
    obtain ⟨a1, a2, a3⟩ := R.a r List.mem_cons_self
    have hle : r.length ≤ w.st.length := by
      unfold chainB at a2
      rw [Bool.and_eq_true, decide_eq_true_eq] at a2
      exact a2.1
    unfold chainW
    refine chainW_ok ok lo k (j + 1) _ (some r) ?_ (by omega) (by omega) (by omega) fun _ => .inr ⟨r, rfl, a1, a2, by omega⟩
    split
    · exact longer_ok lo h1 R
    · refine ⟨fun q hq => ?_, fun s n q => ?_⟩
      · cases hq
      · have := (kc_le q).2.1
        omega
theorem chain_told {w : Way} {l : Log} (ok : w.Ok) (lo : LogOk l) (hp : w.ps ≠ .any) : ∃ o, m_chain [eW w, eL l] = some (eRO o) ∧ Told w l o := by
  obtain ⟨o, h1, h2⟩ := chainW_ok ok lo 20 1 (rows1 w l) (rows1 w l).head? (rows1_ok lo) (Nat.le_refl 1) (by omega) (by omega) fun q => .inl ⟨by rw [q]; rfl, rfl⟩
  exact ⟨o, ev_chain_rows ok lo hp h1, h2⟩
end Sb
end
section
set_option Elab.async false
set_option linter.all false
set_option maxRecDepth 100000
set_option maxHeartbeats 4000000
/-! Ev9: the law's own search for chains; its own level (in order). -/
namespace Sb
open PySem PySem.Spec L2
open PyProof.Rows hiding St

def begN (row : List Nat) : Nat := if row = [] then 0 else ls row + 1
def freshN (l : Log) (rs : List (List Nat)) : List (List Nat) := rs.flatMap fun row => (spN (begN row) l.length).map fun n => row ++ [n]
def nextN (w : Way) (l : Log) (rs : List (List Nat)) : List (List Nat) := (freshN l rs).filter (chainB w l)
def Gr (w : Way) (l : Log) (row : List Nat) : Prop := row = [] ∨ (RowOk l row ∧ chainB w l row = true)
def fBeg : En → Option PyData := (eIf (fT (e2 pyNe (eV 5) (eTup aN))) (e2 pyAdd (e2 pyIx (eV 5) (e1 pyNeg (eC (.int 1)))) (eC (.int 1))) (eC (.int 0)))
def gC1 : Sm := (seqS (asgS 6 fBeg)
      (seqS (asgS 4 (e2 pyAdd (eV 4) (eLc (iR2 (eV 6) (eF pyLen (aC (eV 1) aN))) (tg1 7) cYes (e2 pyAdd (eV 5) (eTup (aC (eV 7) aN))) [7])))
      nextS))
def gC2 : Sm := (seqS (ifS (fAnd (fT (e2 pyLe (eF pyLen (aC (eV 5) aN)) (eF pyLen (aC (e2 pyIx (eV 0) (eC (.int 0))) aN)))) (fT (eF m_law_is_good (aC (eV 0) (aC (eV 1) (aC (eV 5) aN))))))
        (seqS (appS 2 (eV 5))
        nextS)
        nextS)
      nextS)
theorem ne_row0 (row : List Nat) : pyNe (eR row) (.tuple []) = some (.bool (!row.isEmpty)) := by
  rw [pyNe_of (shn_eR row) (shn_tuple (n := 0) (ds := []) (fun _ z => nomatch z)), eR, eqv_nilT]
  cases row <;> rfl
theorem fBeg_ap (row : List Nat) (a0 a1 a2 a3 a4 a6 a7 : Option PyData) : fBeg [a0, a1, a2, a3, a4, some (eR row), a6, a7] = some (.int ((begN row : Nat) : Int)) := by
  have n0 := ne_row0 row
  unfold fBeg begN
  by_cases hn : row = []
  · subst hn
    simp [n0]
  · have hE : row.isEmpty = false := by cases row with
      | nil => exact absurd rfl hn
      | cons x y => rfl
    rw [hE] at n0
    simp [n0, eR_last row hn, hn]
theorem add_row (row : List Nat) (n : Nat) (h : row.length ≤ 1000) : pyAdd (eR row) (.tuple [.int ((n : Nat) : Int)]) = some (eR (row ++ [n])) := by
  rw [← eR_snoc]
  show (if ((ri row).map PyData.int).length + [PyData.int ((n : Nat) : Int)].length ≤ 100000 then some (PyData.tuple ((ri row).map .int ++ [.int ((n : Nat) : Int)])) else none) = _
  rw [if_pos (by simp [ri]; omega)]
theorem add_rows (a b : List (List Nat)) (h : a.length + b.length ≤ 100000) : pyAdd (.list (a.map eR)) (.list (b.map eR)) = some (.list ((a ++ b).map eR)) := by
  show (if (a.map eR).length + (b.map eR).length ≤ 100000 then some (PyData.list (a.map eR ++ b.map eR)) else none) = _
  rw [if_pos (by simpa using h), List.map_append]
theorem begN_le {l : Log} {row : List Nat} (h : row = [] ∨ RowOk l row) : begN row ≤ l.length := by
  unfold begN
  split
  · exact Nat.zero_le _
  · rename_i hn
    rcases h with h | h
    · exact absurd h hn
    · exact h.last
theorem gr_row {w : Way} {l : Log} {row : List Nat} (h : Gr w l row) : row = [] ∨ RowOk l row := h.imp id fun q => q.1
theorem loop1 {w : Way} {l : Log} {x2 x3 : Sl} (hll : l.length ≤ 8) : ∀ (rs acc : List (List Nat)) (y5 y6 y7 : Sl), (∀ r ∈ rs, r = [] ∨ RowOk l r) → acc.length + rs.length * 8 ≤ 100000 →
    ∃ y5' y6' y7', loopS (sg1 5) gC1 (rs.map eR) [.dat (eW w), .dat (eL l), x2, x3, .dat (.list (acc.map eR)), y5, y6, y7] = some (.nx [.dat (eW w), .dat (eL l), x2, x3, .dat (.list ((acc ++ freshN l rs).map eR)), y5', y6', y7'])
  | [], acc, y5, y6, y7, _, _ => ⟨y5, y6, y7, by simp [freshN]⟩
  | row :: rs, acc, y5, y6, y7, h, hc => by
    rw [List.length_cons] at hc
    have hr := h row List.mem_cons_self
    have hb := begN_le hr
    have hl : row.length ≤ 1000 := by
      rcases hr with rfl | q
      · simp
      · exact q.len
    have sl : (spN (begN row) l.length).length ≤ 8 := by rw [spN_len]; omega
    obtain ⟨a, b, c, ih⟩ := loop1 (w := w) (x2 := x2) (x3 := x3) hll rs (acc ++ (spN (begN row) l.length).map fun n => row ++ [n]) (.dat (eR row)) (.dat (.int ((begN row : Nat) : Int))) y7 (fun r hr => h r (List.mem_cons_of_mem _ hr)) (by rw [List.length_append, List.length_map]; omega)
    refine ⟨a, b, c, ?_⟩
    have c1 : ∀ z : PyData, ∀ q2 q3 : Option PyData, compL (tg1 7) cYes (e2 pyAdd (eV 5) (eTup (aC (eV 7) aN))) [some (eW w), some (eL l), q2, q3, some z, some (eR row), some (.int ((begN row : Nat) : Int)), none] ((spN (begN row) l.length).map fun n => .int ((n : Nat) : Int))
        = some ((spN (begN row) l.length).map fun n => eR (row ++ [n])) := fun z q2 q3 =>
      compL_all (fun n : Nat => PyData.int ((n : Nat) : Int)) (fun n => eR (row ++ [n])) _ fun n hn => ⟨_, rfl, by simp [add_row row n hl]⟩
    have e1 : ((spN (begN row) l.length).map fun n => eR (row ++ [n])) = ((spN (begN row) l.length).map fun n => row ++ [n]).map eR := by
      rw [List.map_map]
      rfl
    have k1 : cap ((spN (begN row) l.length).map fun n => PyData.int ((n : Nat) : Int)) = some ((spN (begN row) l.length).map fun n => .int ((n : Nat) : Int)) := cap_ok (by rw [List.length_map]; omega)
    have a1 := add_rows acc ((spN (begN row) l.length).map fun n => row ++ [n]) (by rw [List.length_map]; omega)
    have ef : acc ++ freshN l (row :: rs) = (acc ++ (spN (begN row) l.length).map fun n => row ++ [n]) ++ freshN l rs := by
      unfold freshN
      rw [List.flatMap_cons, List.append_assoc]
    have rr : (-100000 ≤ ((begN row : Nat) : Int) ∧ ((begN row : Nat) : Int) ≤ 100000) ∧ -100000 ≤ ((l.length : Nat) : Int) ∧ ((l.length : Nat) : Int) ≤ 100000 := by omega
    have e2' : (((l.length : Nat) : Int) - ((begN row : Nat) : Int)).toNat = l.length - begN row := by omega
    have e2 := range_sp (begN row) l.length
    rw [List.map_cons, loopS_cons, ef, ← ih]
    generalize (spN (begN row) l.length).map (fun n => row ++ [n]) = gg at *
    rw [e1] at c1
    simp [gC1, fBeg_ap, rr, e2, e2', k1, c1, a1]
theorem mem_fresh {l : Log} {rs : List (List Nat)} {q : List Nat} : q ∈ freshN l rs ↔ ∃ r ∈ rs, ∃ n, begN r ≤ n ∧ n < l.length ∧ q = r ++ [n] := by
  unfold freshN
  rw [List.mem_flatMap]
  constructor
  · rintro ⟨r, h1, h2⟩
    obtain ⟨n, h3, rfl⟩ := List.mem_map.mp h2
    have := mem_spN.mp h3
    exact ⟨r, h1, n, this.1, this.2, rfl⟩
  · rintro ⟨r, h1, n, h2, h3, rfl⟩
    exact ⟨r, h1, List.mem_map.mpr ⟨n, mem_spN.mpr ⟨h2, h3⟩, rfl⟩⟩
theorem fresh_len {l : Log} (hll : l.length ≤ 8) : ∀ rs : List (List Nat), (freshN l rs).length ≤ rs.length * 8
  | [] => by simp [freshN]
  | r :: rs => by
    have ih := fresh_len hll rs
    unfold freshN at ih ⊢
    rw [List.flatMap_cons, List.length_append, List.length_map, spN_len, List.length_cons]
    omega
theorem fresh_row {l : Log} {rs : List (List Nat)} (hl : l.length ≤ 1000) (h : ∀ r ∈ rs, r = [] ∨ RowOk l r) {q : List Nat} (hq : q ∈ freshN l rs) : RowOk l q := by
  obtain ⟨r, h1, n, h2, h3, rfl⟩ := mem_fresh.mp hq
  unfold begN at h2
  by_cases hr : r = []
  · subst hr
    exact rowOk_1 h3 hl
  · rw [if_neg hr] at h2
    rcases h r h1 with z | z
    · exact absurd z hr
    · exact z.snoc (by omega) h3
theorem loop2 {w : Way} {l : Log} (ok : w.Ok) {x3 x4 y6 y7 : Sl} : ∀ (fs acc : List (List Nat)) (y5 : Sl), (∀ r ∈ fs, RowOk l r) → acc.length + fs.length ≤ 100000 →
    ∃ y5', loopS (sg1 5) gC2 (fs.map eR) [.dat (eW w), .dat (eL l), .own (.list (acc.map eR)), x3, x4, y5, y6, y7] = some (.nx [.dat (eW w), .dat (eL l), .own (.list ((acc ++ fs.filter (chainB w l)).map eR)), x3, x4, y5', y6, y7])
  | [], acc, y5, _, _ => ⟨y5, by simp⟩
  | row :: fs, acc, y5, h, hc => by
    rw [List.length_cons] at hc
    have r := h row List.mem_cons_self
    have ih := loop2 (l := l) ok (x3 := x3) (x4 := x4) (y6 := y6) (y7 := y7) fs
    have h' : ∀ r ∈ fs, RowOk l r := fun q hq => h q (List.mem_cons_of_mem _ hq)
    rw [List.map_cons, loopS_cons, List.filter_cons]
    by_cases hl : row.length ≤ w.st.length
    · have hg := ev_law_is_good w ok r hl
      have cb : chainB w l row = goodF w l row := by
        unfold chainB
        rw [decide_eq_true hl, Bool.true_and]
      rw [cb]
      cases hgb : goodF w l row with
      | true =>
        rw [hgb] at hg
        obtain ⟨y5', ih⟩ := ih (acc ++ [row]) (.dat (eR row)) h' (by simp; omega)
        refine ⟨y5', ?_⟩
        have ha : acc.length < 100000 := by omega
        rw [if_pos rfl]
        rw [List.append_assoc, List.singleton_append] at ih
        rw [← ih]
        simp [gC2, hl, hg, ha]
      | false =>
        rw [hgb] at hg
        obtain ⟨y5', ih⟩ := ih acc (.dat (eR row)) h' (by omega)
        refine ⟨y5', ?_⟩
        rw [if_neg Bool.false_ne_true]
        rw [← ih]
        simp [gC2, hl, hg]
    · have cb : chainB w l row = false := by
        unfold chainB
        rw [decide_eq_false hl, Bool.false_and]
      rw [cb]
      obtain ⟨y5', ih⟩ := ih acc (.dat (eR row)) h' (by omega)
      refine ⟨y5', ?_⟩
      rw [if_neg Bool.false_ne_true]
      rw [← ih]
      simp [gC2, hl]
def gCw : Sm := (seqS (asgS 4 (eLst aN))
    (seqS (forS (iS (eV 2)) (sg1 5) gC1)
    (seqS (asgN 2 (eLst aN))
    (seqS (forS (iS (eV 4)) (sg1 5) gC2)
    (seqS (asgS 3 (e2 pyAdd (eV 3) (eV 2)))
    nextS)))))
/-- rows as they stand ahead of turn d, and what was found -/
structure CI (w : Way) (l : Log) (d : Nat) (rs f : List (List Nat)) : Prop where
  a : ∀ row, row ∈ rs ↔ row.length = d ∧ Gr w l row
  b : ∀ row, row ∈ f ↔ (1 ≤ row.length ∧ row.length ≤ d) ∧ Gr w l row
  c : rs.length ≤ 8 ^ d
  e : f.length ≤ 5000 * d
theorem next_ok {w : Way} {l : Log} {d : Nat} {rs f : List (List Nat)} (lo : LogOk l) (hp : w.ps ≠ .any) (ok : w.Ok) (hll : l.length ≤ 8) (hd4 : d ≤ 4) (C : CI w l d rs f) : CI w l (d + 1) (nextN w l rs) (f ++ nextN w l rs) := by
  have a : ∀ row, row ∈ nextN w l rs ↔ row.length = d + 1 ∧ Gr w l row := fun row => by
    unfold nextN
    rw [List.mem_filter]
    constructor
    · rintro ⟨h1, h2⟩
      have r := fresh_row lo.n (fun r hr => gr_row ((C.a r).mp hr).2) h1
      obtain ⟨r', h3, n, h4, h5, rfl⟩ := mem_fresh.mp h1
      exact ⟨by rw [List.length_append, ((C.a r').mp h3).1]; rfl, .inr ⟨r, h2⟩⟩
    · rintro ⟨h1, h2⟩
      rcases h2 with rfl | ⟨r, c⟩
      · cases h1
      · refine ⟨?_, c⟩
        rw [mem_fresh]
        have e := List.dropLast_concat_getLast r.ne
        generalize row.getLast r.ne = n at e
        generalize row.dropLast = row' at e
        subst e
        have hl : row'.length = d := by simpa using h1
        by_cases hn : row' = []
        · subst hn
          exact ⟨[], (C.a []).mpr ⟨hl, .inl rfl⟩, n, Nat.zero_le _, r.lt n List.mem_cons_self, rfl⟩
        · obtain ⟨r1, r2, r3⟩ := r.init hn
          exact ⟨row', (C.a row').mpr ⟨hl, .inr ⟨r1, ((chain_snoc lo r1 r2 r3).mp c).1⟩⟩, n, by unfold begN; rw [if_neg hn]; omega, r3, rfl⟩
  have hc : (nextN w l rs).length ≤ 8 ^ (d + 1) := by
    have h1 := List.length_filter_le (chainB w l) (freshN l rs)
    have h2 := fresh_len hll rs
    have h3 := C.c
    unfold nextN
    rw [Nat.pow_succ]
    omega
  refine ⟨a, fun row => ?_, hc, ?_⟩
  · rw [List.mem_append, C.b, a]
    constructor
    · rintro (⟨⟨x, y⟩, z⟩ | ⟨x, z⟩)
      · exact ⟨⟨x, by omega⟩, z⟩
      · exact ⟨⟨by omega, by omega⟩, z⟩
    · rintro ⟨⟨x, y⟩, z⟩
      by_cases q : row.length = d + 1
      · exact .inr ⟨q, z⟩
      · exact .inl ⟨⟨x, by omega⟩, z⟩
  · have h2 := C.e
    rw [List.length_append]
    by_cases h4 : d = 4
    · have : nextN w l rs = [] := by
        rw [List.eq_nil_iff_forall_not_mem]
        intro row hr
        obtain ⟨q1, q2⟩ := (a row).mp hr
        rcases q2 with rfl | ⟨_, c⟩
        · cases q1
        · unfold chainB at c
          rw [Bool.and_eq_true, decide_eq_true_eq] at c
          have := ok.s4
          omega
      rw [this, List.length_nil]
      omega
    · have h1 : 8 ^ (d + 1) ≤ 8 ^ 4 := Nat.pow_le_pow_right (by decide) (by omega)
      have h3 : 8 ^ 4 = 4096 := by decide
      omega
theorem gCw_run {w : Way} {l : Log} {d : Nat} {rs f : List (List Nat)} {s2 y4 y5 y6 y7 : Sl} (hs : s2 = .own (.list (rs.map eR)) ∨ s2 = .dat (.list (rs.map eR))) (lo : LogOk l) (hp : w.ps ≠ .any) (ok : w.Ok) (hll : l.length ≤ 8) (hd4 : d ≤ 4) (C : CI w l d rs f) :
    ∃ x4 x5 x6 x7, gCw [.dat (eW w), .dat (eL l), s2, .dat (.list (f.map eR)), y4, y5, y6, y7] = some (.nx [.dat (eW w), .dat (eL l), .dat (.list ((nextN w l rs).map eR)), .dat (.list ((f ++ nextN w l rs).map eR)), x4, x5, x6, x7]) := by
  have hrow : ∀ r ∈ rs, r = [] ∨ RowOk l r := fun r hr => gr_row ((C.a r).mp hr).2
  have h8 : 8 ^ d ≤ 8 ^ 4 := Nat.pow_le_pow_right (by decide) hd4
  have h9 : 8 ^ 4 = 4096 := by decide
  have hc := C.c
  have he := C.e
  have hfl := fresh_len hll rs
  have hnl := List.length_filter_le (chainB w l) (freshN l rs)
  obtain ⟨a5, a6, a7, h1⟩ := loop1 (w := w) (x2 := .dat (.list (rs.map eR))) (x3 := .dat (.list (f.map eR))) hll rs [] y5.rel y6.rel y7.rel hrow (by simp; omega)
  obtain ⟨b5, b6, b7, h1'⟩ := loop1 (w := w) (x2 := .dat (.list (rs.map eR))) (x3 := .dat (.list (f.map eR))) hll rs [] y5 y6 y7 hrow (by simp; omega)
  rw [List.nil_append, List.map_nil] at h1 h1'
  have h2 := fun z3 z4 z5 z6 z7 => loop2 (w := w) ok (x3 := z3) (x4 := z4) (y6 := z6) (y7 := z7) (freshN l rs) [] z5 (fun r hr => fresh_row lo.n hrow hr) (by simp; omega)
  have ad := add_rows f (nextN w l rs) (by unfold nextN; omega)
  have sl : ∀ x : List PyData, scd (.list x) = false := fun _ => rfl
  rcases hs with rfl | rfl
  · obtain ⟨c5, h2⟩ := h2 (.dat (.list (f.map eR))) (.dat (.list ((freshN l rs).map eR))) a5 a6 a7
    rw [List.nil_append, List.map_nil] at h2
    refine ⟨.dat (.list ((freshN l rs).map eR)), c5.rel, a6.rel, a7.rel, ?_⟩
    unfold nextN at ad ⊢
    simp [gCw, h1, h2, ad]
  · obtain ⟨c5, h2⟩ := h2 (.dat (.list (f.map eR))) (.dat (.list ((freshN l rs).map eR))) b5 b6 b7
    rw [List.nil_append, List.map_nil] at h2
    refine ⟨.dat (.list ((freshN l rs).map eR)), c5.rel, b6.rel, b7.rel, ?_⟩
    unfold nextN at ad ⊢
    simp [gCw, h1', h2, ad]
end Sb
end
section
set_option Elab.async false
set_option linter.all false
set_option maxRecDepth 100000
set_option maxHeartbeats 4000000
/-! Ev10: the law's own level, in order. -/
namespace Sb
open PySem PySem.Spec L2
open PyProof.Rows hiding St

theorem gr_kc {w : Way} {l : Log} {row : List Nat} (h : Gr w l row) (hn : row ≠ []) : Kc w l row.length (hd row) (ls row) := by
  rcases h with h | ⟨r, c⟩
  · exact absurd h hn
  · exact ⟨row, r, c, rfl, rfl, rfl⟩
theorem gCh_run {w : Way} {l : Log} (lo : LogOk l) (hp : w.ps ≠ .any) (ok : w.Ok) (hll : l.length ≤ 8) : ∀ (k d : Nat) (rs f : List (List Nat)) (s2 y4 y5 y6 y7 : Sl), (s2 = .own (.list (rs.map eR)) ∨ s2 = .dat (.list (rs.map eR))) →
    CI w l d rs f → (rs ≠ [] → d ≤ 4) → d ≤ 5 → 6 ≤ k + d →
    ∃ (g : List (List Nat)) (x2 x4 x5 x6 x7 : Sl), whl (fT (e2 pyNe (eV 2) (eLst aN))) gCw k [.dat (eW w), .dat (eL l), s2, .dat (.list (f.map eR)), y4, y5, y6, y7] = some (.nx [.dat (eW w), .dat (eL l), x2, .dat (.list (g.map eR)), x4, x5, x6, x7]) ∧ g.length ≤ 25000 ∧ ∀ row, row ∈ g ↔ row ≠ [] ∧ Gr w l row
  | 0, d, rs, f, s2, _, _, _, _, _, _, _, h5, h6 => by omega
  | k + 1, d, [], f, s2, y4, y5, y6, y7, hs, C, _, h5, _ => by
    have n1 := ne_rows []
    refine ⟨f, s2, y4, y5, y6, y7, ?_, by have := C.e; omega, fun row => ?_⟩
    · unfold whl
      rcases hs with rfl | rfl <;> simp at n1 <;> simp [n1]
    · rw [C.b]
      constructor
      · rintro ⟨⟨a, b⟩, c⟩
        exact ⟨fun q => by rw [q] at a; simp at a, c⟩
      · rintro ⟨a, c⟩
        have h1 : 1 ≤ row.length := by
          cases row with
          | nil => exact absurd rfl a
          | cons x y => simp
        refine ⟨⟨h1, ?_⟩, c⟩
        refine Classical.byContradiction fun q => ?_
        have hd1 : 1 ≤ d := by
          refine Classical.byContradiction fun z => ?_
          have : [] ∈ ([] : List (List Nat)) := (C.a []).mpr ⟨by rw [List.length_nil]; omega, .inl rfl⟩
          cases this
        have kk := gr_kc c a
        rw [show row.length = d + (row.length - d) by omega] at kk
        obtain ⟨s', n', row', r', c', e', _⟩ := kc_down lo hd1 _ kk
        have : row' ∈ ([] : List (List Nat)) := (C.a row').mpr ⟨e', .inr ⟨r', c'⟩⟩
        cases this
  | k + 1, d, r :: rs, f, s2, y4, y5, y6, y7, hs, C, hd, h5, h6 => by
    have hd4 := hd (by simp)
    have n1 := ne_rows (r :: rs)
    obtain ⟨x4, x5, x6, x7, h1⟩ := gCw_run (y4 := y4) (y5 := y5) (y6 := y6) (y7 := y7) hs lo hp ok hll hd4 C
    have C' := next_ok lo hp ok hll hd4 C
    obtain ⟨g, x2', x4', x5', x6', x7', h2, h3⟩ := gCh_run lo hp ok hll k (d + 1) (nextN w l (r :: rs)) (f ++ nextN w l (r :: rs)) (.dat (.list ((nextN w l (r :: rs)).map eR))) x4 x5 x6 x7 (.inr rfl) C' (fun hn => by
      obtain ⟨q, hq⟩ := List.exists_mem_of_ne_nil _ hn
      obtain ⟨e1, e2⟩ := (C'.a q).mp hq
      have := (kc_le (gr_kc e2 (fun z => by rw [z] at e1; simp at e1))).2.1
      have := ok.s4
      omega) (by omega) (by omega)
    refine ⟨g, x2', x4', x5', x6', x7', ?_, h3⟩
    rw [← h2]
    have hc : fT (e2 pyNe (eV 2) (eLst aN)) (alls [.dat (eW w), .dat (eL l), s2, .dat (.list (f.map eR)), y4, y5, y6, y7]) = some true := by
      rw [List.isEmpty_cons] at n1
      rcases hs with rfl | rfl
      · simp at n1
        simp [n1]
      · simp at n1
        simp [n1]
    conv => lhs; unfold whl
    rw [hc, Option.bind_some, if_pos rfl, h1]
    rfl
theorem ev_law_chains {w : Way} {l : Log} (lo : LogOk l) (hp : w.ps ≠ .any) (ok : w.Ok) (hll : l.length ≤ 8) : ∃ g : List (List Nat), m_law_chains [eW w, eL l] = some (.list (g.map eR)) ∧ g.length ≤ 25000 ∧ ∀ row, row ∈ g ↔ row ≠ [] ∧ Gr w l row := by
  have C0 : CI w l 0 [[]] [] := by
    refine ⟨fun row => ?_, fun row => ?_, by decide, by decide⟩
    · rw [List.mem_singleton, List.length_eq_zero_iff]
      exact ⟨fun h => ⟨h, .inl h⟩, fun h => h.1⟩
    · constructor
      · intro h
        cases h
      · rintro ⟨⟨a, b⟩, _⟩
        omega
  obtain ⟨g, x2, x4, x5, x6, x7, h1, h2⟩ := gCh_run lo hp ok hll 20 0 [[]] [] (.own (.list ([[]].map eR))) .no .no .no .no (.inl rfl) C0 (fun _ => by omega) (by omega) (by omega)
  refine ⟨g, ?_, h2⟩
  have e9 : g_law_chains = seqS (parN 2 3 (eLst (aC (eTup aN) aN)) (eLst aN)) (seqS (whl (fT (e2 pyNe (eV 2) (eLst aN))) gCw 20) (seqS (retS (eV 3)) nextS)) := rfl
  rw [c_law_chains, e9]
  have e0 : eR [] = .tuple [] := rfl
  simp only [List.map_cons, List.map_nil, e0] at h1
  generalize whl (fT (e2 pyNe (eV 2) (eLst aN))) gCw 20 = W at *
  simp [h1]
theorem ev_law_level {w : Way} {l : Log} (lo : LogOk l) (hp : w.ps ≠ .any) (ok : w.Ok) (hll : l.length ≤ 8) : ∃ d : Nat, m_law_level [eW w, eL l] = some (.int (d : Nat)) ∧ Most w l d := by
  obtain ⟨g, h1, h2, h3⟩ := ev_law_chains lo hp ok hll
  have k1 : cap (g.map eR) = some (g.map eR) := cap_ok (by rw [List.length_map]; omega)
  have c1 : compL (tg1 2) cYes (eF pyLen (aC (eV 2) aN)) [some (eW w), some (eL l), none] (g.map eR) = some (g.map fun r => .int (r.length : Nat)) :=
    compL_all eR _ g fun r _ => ⟨_, rfl, by simp⟩
  have e1 : (g.map fun r => PyData.int (r.length : Nat)) = (g.map fun r => ((r.length : Nat) : Int)).map .int := by
    rw [List.map_map]
    rfl
  have a1 : pyAdd (.list [.int 0]) (.list ((g.map fun r => ((r.length : Nat) : Int)).map .int)) = some (.list (.int 0 :: (g.map fun r => ((r.length : Nat) : Int)).map .int)) := by
    show (if [PyData.int 0].length + ((g.map fun r => ((r.length : Nat) : Int)).map PyData.int).length ≤ 100000 then some (PyData.list ([.int 0] ++ (g.map fun r => ((r.length : Nat) : Int)).map .int)) else none) = _
    rw [if_pos (by simp; omega)]
    rfl
  have hm := foldmax_mem (g.map fun r => ((r.length : Nat) : Int)) 0
  have hg := foldmax_ge (g.map fun r => ((r.length : Nat) : Int)) 0
  have hx : m_law_level [eW w, eL l] = some (.int ((g.map fun r => ((r.length : Nat) : Int)).foldl max 0)) := by
    rw [c_law_level]
    have e3 := e1
    generalize (g.map fun r => ((r.length : Nat) : Int)) = gl at *
    rw [e3] at c1
    simp [g_law_level, hp, h1, k1, c1, a1, pyMax1_l]
  have up : ∀ j s n, Kc w l j s n → ((j : Nat) : Int) ≤ (g.map fun r => ((r.length : Nat) : Int)).foldl max 0 := by
    rintro j s n ⟨row, r, c, e, _⟩
    exact hg.2 _ (List.mem_map.mpr ⟨row, (h3 row).mpr ⟨r.ne, .inr ⟨r, c⟩⟩, by rw [e]⟩)
  rcases hm with q | q
  · refine ⟨0, by rw [hx, q]; rfl, .inl rfl, fun j s n k => ?_⟩
    have := up j s n k
    omega
  · obtain ⟨row, hr, e⟩ := List.mem_map.mp q
    obtain ⟨z1, z2⟩ := (h3 row).mp hr
    refine ⟨row.length, by rw [hx, ← e], .inr ⟨_, _, gr_kc z2 z1⟩, fun j s n k => ?_⟩
    have := up j s n k
    omega
end Sb
end
section
set_option Elab.async false
set_option linter.all false
set_option maxRecDepth 100000
set_option maxHeartbeats 4000000
/-! Ev11: the told chain is right, in order. -/
namespace Sb
open PySem PySem.Spec L2
open PyProof.Rows hiding St

theorem eqv_ints : ∀ ns : List Int, PyData.eqvAll (ns.map .int) (ns.map .int) = true
  | [] => by simp [PyData.eqvAll]
  | n :: ns => by
    have ih := eqv_ints ns
    simp [PyData.eqvAll, PyData.eqv, ih]
theorem eqv_eR (r : List Nat) : PyData.eqv (eR r) (eR r) = true := by
  unfold eR
  simp [PyData.eqv, eqv_ints]
theorem ev_right_rows {w : Way} {l : Log} {d : Nat} (lo : LogOk l) (hp : w.ps ≠ .any) (ok : w.Ok) (hM : Most w l d) : m_law_chain_right [eW w, eL l, .int ((d : Nat) : Int)] = some (.bool true) := by
  obtain ⟨o, h1, h2⟩ := chain_told ok lo hp
  rw [c_law_chain_right]
  cases h2 with
  | no m =>
    have : d = 0 := hM.eq m
    subst this
    simp [g_law_chain_right, h1, eRO]
  | @yes r ro c m =>
    have : d = r.length := hM.eq m
    subst this
    have hn : ¬ ((r.length : Nat) : Int) = 0 := by
      have := ro.ne
      cases r with
      | nil => exact absurd rfl this
      | cons x y => simp; omega
    have hc := ev_is_chain w ok lo ro hp
    rw [c] at hc
    have ne : pyNe (eR r) (eR r) = some (.bool false) := by
      rw [pyNe_of (shn_eR r) (shn_eR r), eqv_eR]
      rfl
    have hle : r.length ≤ w.st.length := by
      unfold chainB at c
      rw [Bool.and_eq_true, decide_eq_true_eq] at c
      exact c.1
    have hg := ev_law_is_good w ok ro hle
    have cg : goodF w l r = true := by
      unfold chainB at c
      rw [Bool.and_eq_true] at c
      exact c.2
    rw [cg] at hg
    have asc : ri r = ascI (ri r) := ascI_is (ri_up ro.up) fun _ => Iff.rfl
    have s4 := ok.s4
    have hss : eSortSet (eV 3) [some (eW w), some (eL l), some (.int ((r.length : Nat) : Int)), some (eR r), none] = some (.list ((ri r).map .int)) := by
      show (((some (eR r)).bind tup?).bind intsD).bind _ = _
      show ((intsD ((ri r).map .int)).bind fun ns => if ns.length < 64 then some (PyData.list ((ascI ns).map .int)) else none) = _
      rw [intsD_map, Option.bind_some, if_pos (by simp [ri]; omega), ← asc]
    have hl : pyList [eR r] = some (.list ((ri r).map .int)) := rfl
    have ne2 : pyNe (.list ((ri r).map .int)) (.list ((ri r).map .int)) = some (.bool false) := by
      rw [pyNe_of (shn_list (shn_ints _)) (shn_list (shn_ints _))]
      simp [PyData.eqv, eqv_ints]
    have i1 : pyIsN (eR r) .none = some (.bool false) := rfl
    have nb : pyNotB (.bool true) (.bool true) = some (.bool false) := rfl
    simp [g_law_chain_right, h1, eRO, ro.ne, i1, hc, nb, ne, hp, hss, hl, ne2, hg]
end Sb
end
section
set_option Elab.async false
set_option linter.all false
set_option maxRecDepth 100000
set_option maxHeartbeats 4000000
/-! Mt4: any order: what a standing says. -/
namespace Sb
open PySem PySem.Spec L2
open PyProof.Rows hiding St

/-- event i serves step j at the end m -/
def serve (w : Way) (l : Log) (m : Nat) (ks : List Int) (i : Nat) : Bool := decide (kd l i ∈ ks) && decide (tm l m - tm l i ≤ w.wi)
def hasA (w : Way) (l : Log) (m j : Nat) : Bool := (List.range (m + 1)).any (serve w l m ((w.st[j]?).getD []))
def cntA (w : Way) (l : Log) (m : Nat) : Nat := ((List.range w.st.length).filter (hasA w l m)).length
def bestN (w : Way) (l : Log) (m : Nat) : Nat := (List.range m).foldl (fun b i => max b (cntA w l i)) 0
theorem bestN_succ (w : Way) (l : Log) (m : Nat) : bestN w l (m + 1) = max (bestN w l m) (cntA w l m) := by
  unfold bestN
  rw [List.range_succ, List.foldl_append]
  rfl
theorem hasA_iff {w : Way} {l : Log} {m j : Nat} : hasA w l m j = true ↔ ∃ i, i ≤ m ∧ kd l i ∈ (w.st[j]?).getD [] ∧ tm l m - tm l i ≤ w.wi := by
  unfold hasA serve
  rw [List.any_eq_true]
  constructor
  · rintro ⟨i, h1, h2⟩
    rw [Bool.and_eq_true, decide_eq_true_eq, decide_eq_true_eq] at h2
    exact ⟨i, by have := List.mem_range.mp h1; omega, h2⟩
  · rintro ⟨i, h1, h2, h3⟩
    exact ⟨i, List.mem_range.mpr (by omega), by rw [decide_eq_true h2, decide_eq_true h3]; rfl⟩
def SA (w : Way) (l : Log) (m j : Nat) (a : Int) : Prop := ∃ i, i < m ∧ kd l i ∈ (w.st[j]?).getD [] ∧ a = Tm l m - tm l i
structure AOk (w : Way) (l : Log) (m : Nat) (s : Stg) : Prop where
  len : s.ages.length = w.st.length
  ag : ∀ j, j < w.st.length → LeastA (SA w l m j) w.wi ((s.ages[j]?).join)
  b : s.best = ((bestN w l m : Nat) : Int)
  bg : s.begun = true ↔ ∃ i, i < m ∧ kd l i ∈ (w.st[0]?).getD []
theorem firstA_ok (w : Way) (l : Log) : AOk w l 0 (firstS w) := by
  refine ⟨by simp [firstS], fun j hj => ?_, rfl, ?_⟩
  · have : ((firstS w).ages[j]?).join = none := by simp [firstS, List.getElem?_replicate, hj]
    rw [this]
    rintro a ⟨i, h, _⟩
    exact absurd h (Nat.not_lt_zero _)
  · simp [firstS]
theorem in_steps {w : Way} {k : Int} {j : Nat} : ((j : Nat) : Int) + 1 ∈ stepsIn w k ↔ k ∈ (w.st[j]?).getD [] := by
  rw [stepsIn_ix, List.mem_map]
  constructor
  · rintro ⟨i, h1, h2⟩
    have : i = j := by omega
    subst this
    obtain ⟨ks, h3, h4⟩ := (mem_ix w k i).mp h1
    rw [h3]
    exact h4
  · intro h
    refine ⟨j, (mem_ix w k j).mpr ?_, rfl⟩
    cases e : w.st[j]? with
    | none => rw [e] at h; cases h
    | some ks => rw [e] at h; exact ⟨ks, rfl, h⟩
theorem anyAges_get {ss : List Int} {a : List Age} {j : Nat} (hj : j < a.length) : ((anyAges ss a)[j]?).join = if ((j : Nat) : Int) + 1 ∈ ss then some 0 else (a[j]?).join := by
  unfold anyAges
  rw [List.getElem?_map, List.getElem?_zipIdx, List.getElem?_eq_getElem hj]
  simp
theorem LeastA.isSome {S : Int → Prop} {W : Int} {x : Age} (h : LeastA S W x) : x.isSome = true ↔ ∃ a, S a ∧ a ≤ W := by
  cases x with
  | none =>
    constructor
    · intro q
      cases q
    · rintro ⟨a, h1, h2⟩
      have := h a h1
      omega
  | some a => exact ⟨fun _ => ⟨a, h.1, h.2.1⟩, fun _ => rfl⟩
theorem count_some {α : Type} {a : List (Option α)} {n : Nat} {p : Nat → Bool} (h : a.length = n) (hp : ∀ j, j < n → ((a[j]?).join).isSome = p j) : (a.filter (·.isSome)).length = ((List.range n).filter p).length := by
  have e : a = (List.range n).map fun j => (a[j]?).join := by
    refine List.ext_getElem? fun j => ?_
    rw [List.getElem?_map]
    by_cases hj : j < n
    · have e0 := List.getElem?_eq_getElem (l := a) (i := j) (by omega)
      rw [List.getElem?_range hj, Option.map_some, e0]
      rfl
    · rw [List.getElem?_eq_none (by omega), List.getElem?_eq_none (by simp; omega)]
      rfl
  conv => lhs; rw [e]
  rw [List.filter_map, List.length_map]
  congr 1
  refine List.filter_congr fun j hj => ?_
  exact hp j (List.mem_range.mp hj)
theorem stepA_ok {w : Way} {l : Log} {m : Nat} {s : Stg} (ok : w.Ok) (lo : LogOk l) (hp : w.ps = .any) (hm : m < l.length) (st : AOk w l m s) : AOk w l (m + 1) (behindF w s (at_ l m)) := by
  have hk : kd l m = (at_ l m).2 := rfl
  have hT : Tm l (m + 1) = tm l m := by
    unfold Tm
    rw [if_neg (by omega), Nat.add_sub_cancel]
  have hT2 := Tm_succ hm
  have gr : ∀ j, j < w.st.length → LeastA (fun a => ∃ i, i < m ∧ kd l i ∈ (w.st[j]?).getD [] ∧ a = Tm l (m + 1) - tm l i) w.wi (((s.ages.map (growA (at_ l m).1 w.wi))[j]?).join) := fun j hj => by
    have ih := (st.ag j hj).grow ((lo.gk _ (at_mem hm)).1.1)
    have e1 : ((s.ages.map (growA (at_ l m).1 w.wi))[j]?).join = growA (at_ l m).1 w.wi ((s.ages[j]?).join) := by
      rw [List.getElem?_map]
      cases s.ages[j]? <;> rfl
    rw [e1]
    refine ih.congr fun a => ?_
    unfold SA
    constructor <;> rintro ⟨i, x1, x2, x3⟩ <;> exact ⟨i, x1, x2, by omega⟩
  have hgl : (s.ages.map (growA (at_ l m).1 w.wi)).length = w.st.length := by rw [List.length_map, st.len]
  unfold behindF
  rw [if_pos hp, ← hk]
  generalize s.ages.map (growA (at_ l m).1 w.wi) = ga at *
  have al : (anyAges (stepsIn w (kd l m)) ga).length = w.st.length := by simp [anyAges, hgl]
  have ag : ∀ j, j < w.st.length → LeastA (SA w l (m + 1) j) w.wi (((anyAges (stepsIn w (kd l m)) ga)[j]?).join) := fun j hj => by
    rw [anyAges_get (by omega)]
    by_cases hi : kd l m ∈ (w.st[j]?).getD []
    · rw [if_pos (in_steps.mpr hi)]
      refine ⟨⟨m, Nat.lt_succ_self m, hi, by omega⟩, ok.w0, ?_⟩
      rintro b ⟨i, h1, _, h2⟩
      have := tm_mono lo (show i ≤ m by omega) hm
      omega
    · rw [if_neg (fun q => hi (in_steps.mp q))]
      refine (gr j hj).congr fun a => ?_
      unfold SA
      constructor
      · rintro ⟨i, x1, x2, x3⟩
        exact ⟨i, by omega, x2, x3⟩
      · rintro ⟨i, x1, x2, x3⟩
        have : i ≠ m := fun q => hi (q ▸ x2)
        exact ⟨i, by omega, x2, x3⟩
  refine ⟨al, ag, ?_, ?_⟩
  · dsimp only
    rw [bestN_succ, st.b]
    have : cntS (anyAges (stepsIn w (kd l m)) ga) = ((cntA w l m : Nat) : Int) := by
      unfold cntS cntA
      rw [count_some al fun j hj => ?_]
      rw [Bool.eq_iff_iff, (ag j hj).isSome, hasA_iff]
      unfold SA
      constructor
      · rintro ⟨a, ⟨i, x1, x2, x3⟩, x4⟩
        exact ⟨i, by omega, x2, by omega⟩
      · rintro ⟨i, x1, x2, x3⟩
        exact ⟨_, ⟨i, by omega, x2, rfl⟩, by omega⟩
    rw [this]
    omega
  · dsimp only
    rw [Bool.or_eq_true, one_step, decide_eq_true_eq, st.bg]
    constructor
    · rintro (⟨i, h1, h2⟩ | h)
      · exact ⟨i, by omega, h2⟩
      · exact ⟨m, Nat.lt_succ_self m, h⟩
    · rintro ⟨i, h1, h2⟩
      by_cases hi : i = m
      · rw [hi] at h2
        exact .inr h2
      · exact .inl ⟨i, by omega, h2⟩
theorem behindA_ok {w : Way} {l : Log} (ok : w.Ok) (lo : LogOk l) (hp : w.ps = .any) : AOk w l l.length (behindAll w l) := by
  have key : ∀ m, m ≤ l.length → AOk w l m (behindAll w (l.take m)) := by
    intro m
    induction m with
    | zero => exact fun _ => firstA_ok w l
    | succ m ih =>
      intro h
      rw [behind_take (by omega)]
      exact stepA_ok ok lo hp (by omega) (ih (by omega))
  have := key l.length (Nat.le_refl _)
  rw [List.take_length] at this
  exact this
end Sb
end
section
set_option Elab.async false
set_option linter.all false
set_option maxRecDepth 100000
set_option maxHeartbeats 4000000
/-! Ev12: any order: the law's own level. -/
namespace Sb
open PySem PySem.Spec L2
open PyProof.Rows hiding St

/-- the numbers of the steps that are served at an end -/
def seenA (w : Way) (l : Log) (m : Nat) (is : List Nat) : List Int := is.flatMap fun i => if tm l m - tm l i ≤ w.wi then stepsIn w (kd l i) else []
def gN1 : Sm := (seqS (ifS (fT (e2 pyLe (e2 pySub (e2 pyIx (eV 2) (eV 4)) (e2 pyIx (eV 2) (eV 6))) (e2 pyIx (eV 0) (eC (.int 3)))))
        (seqS (asgS 5 (e2 pyAdd (eV 5) (eF m_law_is_of (aC (eV 0) (aC (e2 pyIx (e2 pyIx (eV 1) (eV 6)) (eC (.int 1))) aN)))))
        nextS)
        nextS)
      nextS)
theorem stepsIn_len (w : Way) (k : Int) : (stepsIn w k).length ≤ w.st.length := by
  unfold stepsIn
  rw [List.length_map]
  have := List.length_filter_le (fun p : List Int × Nat => decide (k ∈ p.1)) w.st.zipIdx
  rw [List.length_zipIdx] at this
  exact this
theorem near1 {w : Way} {l : Log} {m : Nat} {b : Sl} (hll : l.length ≤ 8) (h4 : w.st.length ≤ 4) (hm : m < l.length) : ∀ (is : List Nat) (acc : List Int) (y6 : Sl), (∀ i ∈ is, i ≤ m) → acc.length + is.length * 4 ≤ 1000 →
    ∃ y6', loopS (sg1 6) gN1 (is.map fun n => .int ((n : Nat) : Int)) [.dat (eW w), .dat (eL l), .dat (.list ((times l).map .int)), b, .dat (.int ((m : Nat) : Int)), .dat (.list (acc.map .int)), y6]
      = some (.nx [.dat (eW w), .dat (eL l), .dat (.list ((times l).map .int)), b, .dat (.int ((m : Nat) : Int)), .dat (.list ((acc ++ seenA w l m is).map .int)), y6'])
  | [], acc, y6, _, _ => ⟨y6, by simp [seenA]⟩
  | i :: is, acc, y6, h, hc => by
    rw [List.length_cons] at hc
    have hi := h i List.mem_cons_self
    have hof := ev_law_is_of w h4 (kd l i)
    have sl := stepsIn_len w (kd l i)
    have t1 := tm_at (l := l) (n := m) hm
    have t2 := tm_at (l := l) (n := i) (by omega)
    have hx := ix_L (l := l) (n := i) (by omega)
    have es : seenA w l m (i :: is) = (if tm l m - tm l i ≤ w.wi then stepsIn w (kd l i) else []) ++ seenA w l m is := by
      unfold seenA
      rw [List.flatMap_cons]
    have h' : ∀ j ∈ is, j ≤ m := fun j hj => h j (List.mem_cons_of_mem _ hj)
    rw [List.map_cons, loopS_cons, es]
    unfold kd at hof sl ⊢
    by_cases ht : tm l m - tm l i ≤ w.wi
    · rw [if_pos ht]
      obtain ⟨y6', ih⟩ := near1 (b := b) hll h4 hm is (acc ++ stepsIn w (at_ l i).2) (.dat (.int ((i : Nat) : Int))) h' (by rw [List.length_append]; omega)
      refine ⟨y6', ?_⟩
      rw [List.append_assoc] at ih
      have a1 : pyAdd (.list (acc.map .int)) (.list ((stepsIn w (at_ l i).2).map .int)) = some (.list ((acc ++ stepsIn w (at_ l i).2).map .int)) := by
        show (if (acc.map PyData.int).length + ((stepsIn w (at_ l i).2).map PyData.int).length ≤ 100000 then some (PyData.list (acc.map .int ++ (stepsIn w (at_ l i).2).map .int)) else none) = _
        rw [if_pos (by simp; omega), List.map_append]
      rw [← ih]
      simp only [gN1, seqS_ap, ifS_ap, fT_ap, e2_ap, eV_ap, eC_ap, sg1_ap, List.set_cons_succ, List.set_cons_zero, alls_cons, alls_nil, dats_cons, dats_nil, d1_dat, d2_dat, List.getElem?_cons_succ, List.getElem?_cons_zero, Option.join_some, Option.bind_some, Option.map_some, pyIx_l, atI_nat, List.getElem?_map, t1, t2, pySub_i, eW_3, asgS_ap, evS_ap, eF_ap, aC_ap, aN_ap, hx, eEv_1, hof, a1, nextS_ap]
      simp [ht]
    · rw [if_neg ht]
      obtain ⟨y6', ih⟩ := near1 (b := b) hll h4 hm is acc (.dat (.int ((i : Nat) : Int))) h' (by omega)
      refine ⟨y6', ?_⟩
      rw [List.nil_append, ← ih]
      simp [gN1, t1, t2, ht]
theorem seen_len {w : Way} {l : Log} {m : Nat} (h4 : w.st.length ≤ 4) : ∀ is : List Nat, (seenA w l m is).length ≤ is.length * 4
  | [] => by simp [seenA]
  | i :: is => by
    have ih := seen_len (w := w) (l := l) (m := m) h4 is
    have sl := stepsIn_len w (kd l i)
    unfold seenA at ih ⊢
    rw [List.flatMap_cons, List.length_append, List.length_cons]
    split
    · omega
    · rw [List.length_nil]
      omega
theorem seen_count {w : Way} {l : Log} {m : Nat} : (metI (seenA w l m (List.range (m + 1)))).length = cntA w l m := by
  have e : cntA w l m = (((List.range w.st.length).filter (hasA w l m)).map fun j => ((j : Nat) : Int) + 1).length := by
    rw [List.length_map]
    rfl
  rw [e]
  refine List.Perm.length_eq ((List.perm_ext_iff_of_nodup (metI_nd _) ?_).mpr fun k => ?_)
  · have hn : ((List.range w.st.length).filter (hasA w l m)).Nodup := List.nodup_range.filter _
    unfold List.Nodup at hn ⊢
    rw [List.pairwise_map]
    refine hn.imp fun {a b} h q => h ?_
    omega
  · rw [metI_mem]
    unfold seenA
    rw [List.mem_flatMap, List.mem_map]
    constructor
    · rintro ⟨i, h1, h2⟩
      split at h2
      · rename_i ht
        rw [stepsIn_ix] at h2
        obtain ⟨j, h3, rfl⟩ := List.mem_map.mp h2
        obtain ⟨ks, h4, h5⟩ := (mem_ix w _ j).mp h3
        refine ⟨j, List.mem_filter.mpr ⟨List.mem_range.mpr (List.getElem?_eq_some_iff.mp h4).1, hasA_iff.mpr ⟨i, by have := List.mem_range.mp h1; omega, by rw [h4]; exact h5, ht⟩⟩, rfl⟩
      · cases h2
    · rintro ⟨j, h1, rfl⟩
      obtain ⟨i, h2, h3, h4⟩ := hasA_iff.mp (List.mem_filter.mp h1).2
      refine ⟨i, List.mem_range.mpr (by omega), ?_⟩
      rw [if_pos h4]
      exact in_steps.mpr h3
def gN2 : Sm := (seqS (asgS 5 (eLst aN))
    (seqS (forS (iR1 (e2 pyAdd (eV 4) (eC (.int 1)))) (sg1 6) gN1)
    (seqS (asgS 3 (eF pyMax2 (aC (eV 3) (aC (eLenSet (eV 5)) aN))))
    nextS)))
theorem range_D (n : Nat) : rangeD 0 n = (List.range n).map fun n => PyData.int ((n : Nat) : Int) := by
  unfold rangeD
  simp
theorem near2 {w : Way} {l : Log} (hll : l.length ≤ 8) (h4 : w.st.length ≤ 4) : ∀ (ms : List Nat) (b : Nat) (y4 y5 y6 : Sl), (∀ m ∈ ms, m < l.length) →
    ∃ y4' y5' y6', loopS (sg1 4) gN2 (ms.map fun n => .int ((n : Nat) : Int)) [.dat (eW w), .dat (eL l), .dat (.list ((times l).map .int)), .dat (.int ((b : Nat) : Int)), y4, y5, y6]
      = some (.nx [.dat (eW w), .dat (eL l), .dat (.list ((times l).map .int)), .dat (.int ((ms.foldl (fun b i => max b (cntA w l i)) b : Nat) : Int)), y4', y5', y6'])
  | [], b, y4, y5, y6, _ => ⟨y4, y5, y6, rfl⟩
  | m :: ms, b, y4, y5, y6, h => by
    have hm := h m List.mem_cons_self
    obtain ⟨z6, h1⟩ := near1 (w := w) (l := l) (m := m) (b := .dat (.int ((b : Nat) : Int))) hll h4 hm (List.range (m + 1)) [] y6 (fun i hi => by have := List.mem_range.mp hi; omega) (by simp; omega)
    obtain ⟨y4', y5', y6', ih⟩ := near2 hll h4 ms (max b (cntA w l m)) (.dat (.int ((m : Nat) : Int))) (.dat (.list ((seenA w l m (List.range (m + 1))).map .int))) z6 (fun i hi => h i (List.mem_cons_of_mem _ hi))
    refine ⟨y4', y5', y6', ?_⟩
    rw [List.map_cons, loopS_cons, List.foldl_cons, ← ih]
    rw [List.nil_append, List.map_nil] at h1
    have sl := seen_len (w := w) (l := l) (m := m) h4 (List.range (m + 1))
    rw [List.length_range] at sl
    have ls : ∀ a0 a1 a2 a3 a4 a6, eLenSet (eV 5) [a0, a1, a2, a3, a4, some (.list ((seenA w l m (List.range (m + 1))).map .int)), a6] = some (.int ((cntA w l m : Nat) : Int)) := fun a0 a1 a2 a3 a4 a6 => by
      show ((intsD ((seenA w l m (List.range (m + 1))).map .int)).bind fun ns => if ns.length ≤ 1000 then some (PyData.int (metI ns).length) else none) = _
      rw [intsD_map, Option.bind_some, if_pos (by omega), seen_count]
    have rr : (-100000 : Int) ≤ ((m : Nat) : Int) + 1 ∧ ((m : Nat) : Int) + 1 ≤ 100000 := by omega
    have e1 : (((m : Nat) : Int) + 1).toNat = m + 1 := by omega
    have e2 : max ((b : Nat) : Int) ((cntA w l m : Nat) : Int) = ((max b (cntA w l m) : Nat) : Int) := by omega
    simp [gN2, rr, e1, range_D, h1, ls, pyMax2_i, e2]
theorem ev_law_most_near {w : Way} {l : Log} (hll : l.length ≤ 8) (h4 : w.st.length ≤ 4) : m_law_most_near [eW w, eL l] = some (.int ((bestN w l l.length : Nat) : Int)) := by
  obtain ⟨y4, y5, y6, h1⟩ := near2 (w := w) (l := l) hll h4 (List.range l.length) 0 .no .no .no (fun m hm => List.mem_range.mp hm)
  have ht := ev_law_when l (by omega)
  have e9 : g_law_most_near = seqS (parS 2 3 (eF m_law_when (aC (eV 1) aN)) (eC (.int 0))) (seqS (forS (iR1 (eF pyLen (aC (eV 1) aN))) (sg1 4) gN2) (seqS (retS (eV 3)) nextS)) := rfl
  have rr : (-100000 : Int) ≤ (l.length : Nat) ∧ ((l.length : Nat) : Int) ≤ 100000 := by omega
  rw [c_law_most_near, e9]
  unfold bestN
  rw [show (((0 : Nat)) : Int) = 0 from rfl] at h1
  simp [ht, rr, range_D, h1]
end Sb
end
section
set_option Elab.async false
set_option linter.all false
set_option maxRecDepth 100000
set_option maxHeartbeats 4000000
/-! Ev13: any order: the chain that is told. -/
namespace Sb
open PySem PySem.Spec L2
open PyProof.Rows hiding St

abbrev Ro := List (Option Nat)
def eO : Option Nat → PyData
  | none => .none
  | some n => .int ((n : Nat) : Int)
def eOR (r : Ro) : PyData := .tuple (r.map eO)
def lastA (w : Way) (l : Log) (m : Nat) (ks : List Int) : Option Nat := ((List.range (m + 1)).filter (serve w l m ks)).getLast?
def rowA (w : Way) (l : Log) (m : Nat) : Ro := w.st.map (lastA w l m)
def cntO (r : Ro) : Nat := (r.filter (·.isSome)).length
def noneR (w : Way) : Ro := List.replicate w.st.length none
def pickA (w : Way) (l : Log) (b : Ro) (m : Nat) : Ro := if cntO b < cntO (rowA w l m) then rowA w l m else b
@[simp] theorem isN_O (a : Option Nat) : pyIsN (eO a) .none = some (.bool a.isNone) := by cases a <;> rfl
@[simp] theorem notN_O (a : Option Nat) : pyNotN (eO a) .none = some (.bool a.isSome) := by cases a <;> rfl
@[simp] theorem scd_eOR (r : Ro) : scd (eOR r) = false := rfl
@[simp] theorem items_eOR (r : Ro) : items (eOR r) = some (r.map eO) := rfl
@[simp] theorem pyLen_eOR (r : Ro) : pyLen [eOR r] = some (.int (r.length : Nat)) := by
  show some (PyData.int (((r.map eO).length : Nat) : Int)) = _
  rw [List.length_map]
def fLast : En → Option PyData := (eIf (fT (e2 pyNe (eV 7) (eLst aN))) (e2 pyIx (eV 7) (e1 pyNeg (eC (.int 1)))) (eC .none))
theorem fLast_ap (ns : List Nat) (a0 a1 a2 a3 a4 a5 a6 a8 : Option PyData) : fLast [a0, a1, a2, a3, a4, a5, a6, some (.list (ns.map fun n => .int ((n : Nat) : Int))), a8] = some (eO ns.getLast?) := by
  have n0 := ne_nats ns
  unfold fLast
  cases h : ns with
  | nil =>
    rw [h] at n0
    simp at n0
    simp [n0, eO]
  | cons x r =>
    rw [← h]
    have hE : ns.isEmpty = false := by rw [h]; rfl
    rw [hE] at n0
    have hne : ns ≠ [] := by rw [h]; simp
    have hl : atI (ns.map fun n => PyData.int ((n : Nat) : Int)) (-1) = some (.int ((ns.getLast hne : Nat) : Int)) := by
      rw [atI_last, List.getLast?_map, List.getLast?_eq_some_getLast hne]
      rfl
    rw [List.getLast?_eq_some_getLast hne]
    simp [n0, hl, eO]
def fServe : En → Option Bool := (fAnd (fT (e2 (pyIn false) (e2 pyIx (e2 pyIx (eV 1) (eV 8)) (eC (.int 1))) (eV 6))) (fT (e2 pyLe (e2 pySub (e2 pyIx (eV 2) (eV 4)) (e2 pyIx (eV 2) (eV 8))) (e2 pyIx (eV 0) (eC (.int 3))))))
theorem fServe_ap {w : Way} {l : Log} {m i : Nat} {ks : List Int} (hm : m < l.length) (hi : i < l.length) (a3 a5 a7 : Option PyData) :
    fServe [some (eW w), some (eL l), some (.list ((times l).map .int)), a3, some (.int ((m : Nat) : Int)), a5, some (eKs ks), a7, some (.int ((i : Nat) : Int))] = some (serve w l m ks i) := by
  have t1 := tm_at (l := l) (n := m) hm
  have t2 := tm_at (l := l) (n := i) hi
  have hx := ix_L (l := l) (n := i) hi
  unfold serve kd
  by_cases h1 : (at_ l i).2 ∈ ks
  · simp [fServe, hx, h1, t1, t2]
  · simp [fServe, hx, h1]
def gA1 : Sm := (seqS (asgS 7 (eLc (iR1 (e2 pyAdd (eV 4) (eC (.int 1)))) (tg1 8) fServe (eV 8) [8]))
      (seqS (appS 5 fLast)
      nextS))
theorem any1 {w : Way} {l : Log} {m : Nat} {x3 : Sl} (hll : l.length ≤ 8) (hm : m < l.length) : ∀ (st : List (List Int)) (acc : Ro) (y6 y7 y8 : Sl), acc.length + st.length ≤ 1000 →
    ∃ y6' y7', loopS (sg1 6) gA1 (st.map eKs) [.dat (eW w), .dat (eL l), .dat (.list ((times l).map .int)), x3, .dat (.int ((m : Nat) : Int)), .own (.list (acc.map eO)), y6, y7, y8]
      = some (.nx [.dat (eW w), .dat (eL l), .dat (.list ((times l).map .int)), x3, .dat (.int ((m : Nat) : Int)), .own (.list ((acc ++ st.map (lastA w l m)).map eO)), y6', y7', y8])
  | [], acc, y6, y7, y8, _ => ⟨y6, y7, by simp⟩
  | ks :: st, acc, y6, y7, y8, hc => by
    rw [List.length_cons] at hc
    obtain ⟨y6', y7', ih⟩ := any1 (w := w) (x3 := x3) hll hm st (acc ++ [lastA w l m ks]) (.dat (eKs ks)) (.dat (.list (((List.range (m + 1)).filter (serve w l m ks)).map fun n => .int ((n : Nat) : Int)))) y8 (by simp; omega)
    refine ⟨y6', y7', ?_⟩
    have c1 : ∀ a3 a5 a7, compL (tg1 8) fServe (eV 8) [some (eW w), some (eL l), some (.list ((times l).map .int)), a3, some (.int ((m : Nat) : Int)), a5, some (eKs ks), a7, none] ((List.range (m + 1)).map fun n => .int ((n : Nat) : Int))
        = some (((List.range (m + 1)).filter (serve w l m ks)).map fun n => .int ((n : Nat) : Int)) := fun a3 a5 a7 =>
      compL_eq (fun n : Nat => .int ((n : Nat) : Int)) (serve w l m ks) (fun n => .int ((n : Nat) : Int)) _ fun i hi => ⟨_, rfl, by
        have := List.mem_range.mp hi
        simp only [List.set_cons_succ, List.set_cons_zero]
        exact fServe_ap hm (by omega) _ _ _, fun _ => by simp⟩
    have k1 : cap ((List.range (m + 1)).map fun n => PyData.int ((n : Nat) : Int)) = some ((List.range (m + 1)).map fun n => .int ((n : Nat) : Int)) := cap_ok (by simp; omega)
    have rr : (-100000 : Int) ≤ ((m : Nat) : Int) + 1 ∧ ((m : Nat) : Int) + 1 ≤ 100000 := by omega
    have e1 : (((m : Nat) : Int) + 1).toNat = m + 1 := by omega
    have ha : acc.length < 100000 := by omega
    have la : lastA w l m ks = ((List.range (m + 1)).filter (serve w l m ks)).getLast? := rfl
    rw [List.map_cons, loopS_cons]
    have es : acc ++ (ks :: st).map (lastA w l m) = acc ++ [lastA w l m ks] ++ st.map (lastA w l m) := by simp
    rw [es, ← ih, la]
    generalize (List.range (m + 1)).filter (serve w l m ks) = fs at *
    simp [gA1, rr, e1, range_D, k1, c1, fLast_ap, ha]
def gA2 : Sm := (seqS (asgN 5 (eLst aN))
    (seqS (forS (iS (e2 pyIx (eV 0) (eC (.int 0)))) (sg1 6) gA1)
    (seqS (ifS (fT (e2 pyGt (eF pyLen (aC (eLc (iS (eV 5)) (tg1 8) (fT (e2 pyNotN (eV 8) (eC .none))) (eV 8) [8]) aN)) (eF pyLen (aC (eLc (iS (eV 3)) (tg1 8) (fT (e2 pyNotN (eV 8) (eC .none))) (eV 8) [8]) aN))))
      (seqS (asgS 3 (eF pyTuple (aC (eV 5) aN)))
      nextS)
      nextS)
    nextS)))
theorem any2 {w : Way} {l : Log} (hll : l.length ≤ 8) (h4 : w.st.length ≤ 4) : ∀ (ms : List Nat) (b : Ro) (y4 y5 y6 y7 y8 : Sl), (∀ m ∈ ms, m < l.length) → b.length ≤ 4 →
    ∃ y4' y5' y6' y7' y8', loopS (sg1 4) gA2 (ms.map fun n => .int ((n : Nat) : Int)) [.dat (eW w), .dat (eL l), .dat (.list ((times l).map .int)), .dat (eOR b), y4, y5, y6, y7, y8]
      = some (.nx [.dat (eW w), .dat (eL l), .dat (.list ((times l).map .int)), .dat (eOR (ms.foldl (pickA w l) b)), y4', y5', y6', y7', y8'])
  | [], b, y4, y5, y6, y7, y8, _, _ => ⟨y4, y5, y6, y7, y8, rfl⟩
  | m :: ms, b, y4, y5, y6, y7, y8, h, hb => by
    have hm := h m List.mem_cons_self
    obtain ⟨z6, z7, h1⟩ := any1 (w := w) (l := l) (m := m) (x3 := .dat (eOR b)) hll hm w.st [] y6 y7 y8 (by simp; omega)
    have hpl : (pickA w l b m).length ≤ 4 := by
      unfold pickA
      split
      · simp [rowA]; omega
      · exact hb
    have hrl : (rowA w l m).length ≤ 4 := by simp [rowA]; omega
    have h' : ∀ i ∈ ms, i < l.length := fun i hi => h i (List.mem_cons_of_mem _ hi)
    rw [List.nil_append, List.map_nil] at h1
    have er : w.st.map (lastA w l m) = rowA w l m := rfl
    rw [er] at h1
    have c1 : ∀ a0 a1 a2 a3 a4 a5 a6 a7, ∀ r : Ro, compL (tg1 8) (fT (e2 pyNotN (eV 8) (eC .none))) (eV 8) [a0, a1, a2, a3, a4, a5, a6, a7, none] (r.map eO) = some ((r.filter fun x => x.isSome).map eO) := fun a0 a1 a2 a3 a4 a5 a6 a7 r =>
      compL_eq eO (fun x => x.isSome) eO r fun x hx => ⟨_, rfl, by simp, fun _ => by simp⟩
    have k1 : ∀ r : Ro, r.length ≤ 4 → cap (r.map eO) = some (r.map eO) := fun r hr => cap_ok (by rw [List.length_map]; omega)
    have kb := k1 b hb
    have kr := k1 _ hrl
    rw [List.map_cons, loopS_cons, List.foldl_cons]
    by_cases hc : cntO b < cntO (rowA w l m)
    · have hp : pickA w l b m = rowA w l m := if_pos hc
      rw [hp] at hpl ⊢
      obtain ⟨y4', y5', y6', y7', y8', ih⟩ := any2 hll h4 ms (rowA w l m) (.dat (.int ((m : Nat) : Int))) (.dat (.list ((rowA w l m).map eO))) z6.rel z7.rel y8.rel h' hpl
      refine ⟨y4', y5', y6', y7', y8', ?_⟩
      rw [← ih]
      unfold cntO at hc
      have er2 : PyData.tuple ((rowA w l m).map eO) = eOR (rowA w l m) := rfl
      simp [gA2, h1, c1, kb, kr, hc, er2]
    · have hp : pickA w l b m = b := if_neg hc
      rw [hp] at hpl ⊢
      obtain ⟨y4', y5', y6', y7', y8', ih⟩ := any2 hll h4 ms b (.dat (.int ((m : Nat) : Int))) (.own (.list ((rowA w l m).map eO))) z6 z7 y8 h' hpl
      refine ⟨y4', y5', y6', y7', y8', ?_⟩
      rw [← ih]
      unfold cntO at hc
      simp [gA2, h1, c1, kb, kr, hc]
def bestA (w : Way) (l : Log) : Ro := (List.range l.length).foldl (pickA w l) (noneR w)
theorem ev_longest_any {w : Way} {l : Log} (hll : l.length ≤ 8) (h1 : 1 ≤ w.st.length) (h4 : w.st.length ≤ 4) : m_longest_any [eW w, eL l] = some (eOR (bestA w l)) := by
  obtain ⟨y4, y5, y6, y7, y8, h2⟩ := any2 (w := w) (l := l) hll h4 (List.range l.length) (noneR w) .no .no .no .no .no (fun m hm => List.mem_range.mp hm) (by simp [noneR]; omega)
  have ht := ev_times_in l (by omega)
  have e9 : g_longest_any = seqS (unpS (sgN [2, 3]) (eTup (aC (eF m_times_in (aC (eV 1) aN)) (aC (e2 pyRepT (eTup (aC (eC .none) aN)) (eF pyLen (aC (e2 pyIx (eV 0) (eC (.int 0))) aN))) aN)))) (seqS (forS (iR1 (eF pyLen (aC (eV 1) aN))) (sg1 4) gA2) (seqS (retS (eV 3)) nextS)) := rfl
  have rr : (-100000 : Int) ≤ (l.length : Nat) ∧ ((l.length : Nat) : Int) ≤ 100000 := by omega
  have a : (1 : Int) ≤ w.st.length ∧ (w.st.length : Int) ≤ 1000 := by omega
  have er : PyData.tuple (List.replicate w.st.length .none) = eOR (noneR w) := by
    unfold eOR noneR
    rw [List.map_replicate]
    rfl
  rw [c_longest_any, e9]
  unfold bestA
  simp [ht, pyRepT, a, er, rr, range_D, h2]
theorem ev_chain_any {w : Way} {l : Log} (ok : w.Ok) (lo : LogOk l) (hll : l.length ≤ 8) (hp : w.ps = .any) (hb : (bestA w l).length ≤ 4) : m_chain [eW w, eL l] = some (if cntO (bestA w l) = 0 then .none else eOR (bestA w l)) := by
  have h1 := ev_longest_any hll ok.s1 ok.s4
  generalize bestA w l = b at *
  have c1 : ∀ a0 a1 a2 a3 a4 a5, compL (tg1 6) cYes (e2 pyIsN (eV 6) (eC .none)) [a0, a1, a2, a3, a4, a5, none] (b.map eO) = some (b.map fun x => .bool x.isNone) := fun a0 a1 a2 a3 a4 a5 =>
    compL_all eO _ b fun x hx => ⟨_, rfl, by simp⟩
  have kb : cap (b.map eO) = some (b.map eO) := cap_ok (by rw [List.length_map]; omega)
  have ea : (b.all fun x => x.isNone) = decide (cntO b = 0) := by
    unfold cntO
    rw [Bool.eq_iff_iff, decide_eq_true_eq, List.length_eq_zero_iff, List.filter_eq_nil_iff, List.all_eq_true]
    constructor
    · intro h x hx q
      have := h x hx
      cases x <;> simp at *
    · intro h x hx
      have := h x hx
      cases x <;> simp at *
  rw [c_chain]
  by_cases hc : cntO b = 0
  · rw [decide_eq_true hc] at ea
    simp [g_chain, ev_need_way w ok, ev_need_log l lo, hp, h1, kb, c1, ea, hc]
  · rw [decide_eq_false hc] at ea
    simp [g_chain, ev_need_way w ok, ev_need_log l lo, hp, h1, kb, c1, ea, hc]
end Sb
end
section
set_option Elab.async false
set_option linter.all false
set_option maxRecDepth 100000
set_option maxHeartbeats 4000000
/-! Ev14: any order: the told chain is right. -/
namespace Sb
open PySem PySem.Spec L2
open PyProof.Rows hiding St

theorem last_some {w : Way} {l : Log} {m : Nat} {ks : List Int} {i : Nat} (h : lastA w l m ks = some i) : i ≤ m ∧ kd l i ∈ ks ∧ tm l m - tm l i ≤ w.wi := by
  have hm := List.mem_of_getLast? h
  obtain ⟨h1, h2⟩ := List.mem_filter.mp hm
  unfold serve at h2
  rw [Bool.and_eq_true, decide_eq_true_eq, decide_eq_true_eq] at h2
  exact ⟨by have := List.mem_range.mp h1; omega, h2⟩
theorem last_is (w : Way) (l : Log) (m : Nat) (ks : List Int) : (lastA w l m ks).isSome = (List.range (m + 1)).any (serve w l m ks) := by
  unfold lastA
  rw [Bool.eq_iff_iff, List.getLast?_isSome, List.any_eq_true, ne_eq, List.filter_eq_nil_iff]
  constructor
  · intro h
    refine Classical.byContradiction fun q => h fun x hx hs => q ⟨x, hx, hs⟩
  · rintro ⟨x, hx, hs⟩ h
    exact h x hx hs
theorem row_count (w : Way) (l : Log) (m : Nat) : cntO (rowA w l m) = cntA w l m := by
  unfold cntO cntA
  refine count_some (by simp [rowA]) fun j hj => ?_
  unfold rowA
  rw [List.getElem?_map, List.getElem?_eq_getElem hj]
  show (lastA w l m w.st[j]).isSome = _
  rw [last_is]
  unfold hasA
  rw [List.getElem?_eq_getElem hj]
  rfl
theorem none_count (w : Way) : cntO (noneR w) = 0 := by
  unfold cntO noneR
  rw [List.length_eq_zero_iff, List.filter_eq_nil_iff]
  intro x hx
  rw [List.eq_of_mem_replicate hx]
  simp
theorem pick_count (w : Way) (l : Log) (b : Ro) (m : Nat) : cntO (pickA w l b m) = max (cntO b) (cntA w l m) := by
  unfold pickA
  have := row_count w l m
  split <;> omega
theorem picks_count (w : Way) (l : Log) : ∀ (ms : List Nat) (b : Ro), cntO (ms.foldl (pickA w l) b) = ms.foldl (fun b i => max b (cntA w l i)) (cntO b)
  | [], b => rfl
  | m :: ms, b => by rw [List.foldl_cons, List.foldl_cons, picks_count w l ms, pick_count]
theorem picks_is (w : Way) (l : Log) : ∀ (ms : List Nat) (b : Ro), ms.foldl (pickA w l) b = b ∨ ∃ m ∈ ms, ms.foldl (pickA w l) b = rowA w l m
  | [], b => .inl rfl
  | m :: ms, b => by
    rw [List.foldl_cons]
    rcases picks_is w l ms (pickA w l b m) with h | ⟨n, h1, h2⟩
    · rw [h]
      unfold pickA
      split
      · exact .inr ⟨m, List.mem_cons_self, rfl⟩
      · exact .inl rfl
    · exact .inr ⟨n, List.mem_cons_of_mem _ h1, h2⟩
theorem best_count (w : Way) (l : Log) : cntO (bestA w l) = bestN w l l.length := by
  unfold bestA bestN
  rw [picks_count, none_count]
theorem best_is (w : Way) (l : Log) : bestA w l = noneR w ∨ ∃ m, m < l.length ∧ bestA w l = rowA w l m := by
  rcases picks_is w l (List.range l.length) (noneR w) with h | ⟨m, h1, h2⟩
  · exact .inl h
  · exact .inr ⟨m, List.mem_range.mp h1, h2⟩
theorem best_len (w : Way) (l : Log) : (bestA w l).length = w.st.length := by
  rcases best_is w l with h | ⟨m, _, h⟩ <;> rw [h]
  · simp [noneR]
  · simp [rowA]
/-- the steps that are served, each with its event -/
def someO (r : Ro) : List (Nat × Nat) := ((r.zipIdx).filter fun p => p.1.isSome).map fun p => (p.2, p.1.getD 0)
def eP (p : Nat × Nat) : PyData := .tuple [.int ((p.1 : Nat) : Int), .int ((p.2 : Nat) : Int)]
theorem some_enc (r : Ro) : (((r.zipIdx : List (Option Nat × Nat)).filter fun p => p.1.isSome).map fun p => PyData.tuple [.int ((p.2 : Nat) : Int), eO p.1]) = (someO r).map eP := by
  unfold someO
  rw [List.map_map]
  refine List.map_congr_left fun p hp => ?_
  obtain ⟨_, h⟩ := List.mem_filter.mp hp
  obtain ⟨x, j⟩ := p
  cases x with
  | none => cases h
  | some n => rfl
theorem some_len (r : Ro) : (someO r).length = cntO r := by
  unfold someO cntO
  rw [List.length_map]
  have : ((r.zipIdx).map (·.1)).filter (·.isSome) = r.filter (·.isSome) := by rw [List.zipIdx_map_fst]
  rw [← this, List.filter_map, List.length_map]
  rfl
theorem mem_someO {r : Ro} {p : Nat × Nat} (h : p ∈ someO r) : r[p.1]? = some (some p.2) := by
  obtain ⟨⟨x, j⟩, h1, rfl⟩ := List.mem_map.mp h
  obtain ⟨h2, h3⟩ := List.mem_filter.mp h1
  rw [List.mem_zipIdx_iff_getElem?] at h2
  cases x with
  | none => cases h3
  | some n => exact h2
/-- right pairs of a step and its event -/
structure Prs (w : Way) (l : Log) (ps : List (Nat × Nat)) : Prop where
  ne : ps ≠ []
  a : ∀ p ∈ ps, p.1 < w.st.length ∧ p.2 < l.length ∧ kd l p.2 ∈ (w.st[p.1]?).getD []
  t : ∀ p ∈ ps, ∀ q ∈ ps, tm l p.2 - tm l q.2 ≤ w.wi
theorem best_prs {w : Way} {l : Log} (lo : LogOk l) (hc : cntO (bestA w l) ≠ 0) : Prs w l (someO (bestA w l)) := by
  have hn : someO (bestA w l) ≠ [] := fun q => hc (by rw [← some_len, q]; rfl)
  rcases best_is w l with h | ⟨m, hm, h⟩
  · rw [h, none_count] at hc
    exact absurd rfl hc
  · have key : ∀ p ∈ someO (bestA w l), p.1 < w.st.length ∧ p.2 ≤ m ∧ kd l p.2 ∈ (w.st[p.1]?).getD [] ∧ tm l m - tm l p.2 ≤ w.wi := by
      intro p hp
      have h1 := mem_someO hp
      rw [h] at h1
      unfold rowA at h1
      rw [List.getElem?_map] at h1
      cases hs : w.st[p.1]? with
      | none => rw [hs] at h1; cases h1
      | some ks =>
        rw [hs] at h1
        have h2 : lastA w l m ks = some p.2 := Option.some.inj h1
        obtain ⟨a, b, c⟩ := last_some h2
        exact ⟨(List.getElem?_eq_some_iff.mp hs).1, a, b, c⟩
    refine ⟨hn, fun p hp => ?_, fun p hp q hq => ?_⟩
    · obtain ⟨a, b, c, _⟩ := key p hp
      exact ⟨a, by omega, c⟩
    · have h1 := (key p hp).2.1
      have h2 := (key q hq).2.2.2
      have := tm_mono lo h1 hm
      omega
theorem ev_are_near2 {w : Way} {l : Log} {xs : List Int} {a b : Nat} (hl : l.length ≤ 1000) (he : w.ea = false) (h1 : xs.head? = some ((a : Nat) : Int)) (h2 : xs.getLast? = some ((b : Nat) : Int)) (ha : a < l.length) (hb : b < l.length) :
    m_are_near [eW w, eL l, .list (xs.map .int)] = some (.bool (decide (tm l b - tm l a ≤ w.wi))) := by
  have ht := ev_times_in l hl
  have t1 := tm_at ha
  have t2 := tm_at hb
  have i1 : pyIx (.list (xs.map .int)) (.int 0) = some (.int ((a : Nat) : Int)) := by
    rw [pyIx_l, atI_0, List.getElem?_map, ← List.head?_eq_getElem?, h1]
    rfl
  have i2 : pyIx (.list (xs.map .int)) (.int (-1)) = some (.int ((b : Nat) : Int)) := by
    rw [pyIx_l, atI_last, List.getLast?_map, h2]
    rfl
  rw [c_are_near]
  simp only [pyIx_l] at i1 i2
  simp [g_are_near, ht, he, i1, i2, t1, t2]
theorem pairs_sorted {w : Way} {l : Log} {ps : List (Nat × Nat)} (P : Prs w l ps) : ∃ a b : Nat × Nat, a ∈ ps ∧ b ∈ ps ∧ (sortI (ps.map fun p => ((p.2 : Nat) : Int))).head? = some ((a.2 : Nat) : Int) ∧ (sortI (ps.map fun p => ((p.2 : Nat) : Int))).getLast? = some ((b.2 : Nat) : Int) := by
  have hp := sortI_perm (ps.map fun p => ((p.2 : Nat) : Int))
  have hl : (sortI (ps.map fun p => ((p.2 : Nat) : Int))) ≠ [] := fun q => by
    have := hp.length_eq
    rw [q] at this
    simp at this
    exact P.ne (List.length_eq_zero_iff.mp this.symm)
  obtain ⟨a, h1, h2⟩ := List.mem_map.mp (hp.mem_iff.mp (List.head_mem hl))
  obtain ⟨b, h3, h4⟩ := List.mem_map.mp (hp.mem_iff.mp (List.getLast_mem hl))
  exact ⟨a, b, h1, h3, by rw [h2]; exact List.head?_eq_some_head hl, by rw [h4]; exact List.getLast?_eq_some_getLast hl⟩
theorem enum_O (r : Ro) : enumFrom 0 (r.map eO) = (r.zipIdx : List (Option Nat × Nat)).map fun p => .tuple [.int ((p.2 : Nat) : Int), eO p.1] := enum_map eO 0 r
theorem shn_eP (p : Nat × Nat) : ShN 1 (eP p) := shn_tuple (n := 0) fun d hd => by
  rcases List.mem_cons.mp hd with rfl | hd
  · exact shn_int _
  · rw [List.mem_singleton.mp hd]
    exact shn_int _
theorem eq_pairs (ps : List (Nat × Nat)) : pyEq (.list (ps.map eP)) (.list []) = some (.bool ps.isEmpty) := by
  rw [pyEq_nil (shn_list (n := 1) fun d hd => by
    obtain ⟨p, _, rfl⟩ := List.mem_map.mp hd
    exact shn_eP p)]
  cases ps <;> rfl
@[simp] theorem tgN_eP (is : List Nat) (p : Nat × Nat) (sl : En) : tgN is (eP p) sl = tgs is [.int ((p.1 : Nat) : Int), .int ((p.2 : Nat) : Int)] sl := rfl
theorem ev_is_any_chain {w : Way} {l : Log} {r : Ro} (lo : LogOk l) (he : w.ea = false) (h4 : w.st.length ≤ 4) (hr : r.length = w.st.length) (P : Prs w l (someO r)) : m_is_any_chain [eW w, eL l, eOR r] = some (.bool true) := by
  have hn := lo.n
  have hsl := some_len r
  have hsr : cntO r ≤ r.length := List.length_filter_le _ _
  have kr : cap ((r.zipIdx : List (Option Nat × Nat)).map fun p => PyData.tuple [.int ((p.2 : Nat) : Int), eO p.1]) = some ((r.zipIdx : List (Option Nat × Nat)).map fun p => PyData.tuple [.int ((p.2 : Nat) : Int), eO p.1]) := cap_ok (by simp; omega)
  have c1 : ∀ a0 a1 a2 a3, compL (tgN [4, 5]) (fT (e2 pyNotN (eV 5) (eC .none))) (eTup (aC (eV 4) (aC (eV 5) aN))) [a0, a1, a2, a3, none, none] ((r.zipIdx : List (Option Nat × Nat)).map fun p => .tuple [.int ((p.2 : Nat) : Int), eO p.1])
      = some (((r.zipIdx : List (Option Nat × Nat)).filter fun p => p.1.isSome).map fun p => .tuple [.int ((p.2 : Nat) : Int), eO p.1]) := fun a0 a1 a2 a3 =>
    compL_eq (α := Option Nat × Nat) _ (fun p => p.1.isSome) (fun p => .tuple [.int ((p.2 : Nat) : Int), eO p.1]) _ fun x hx => ⟨_, rfl, by simp, fun _ => by simp⟩
  simp only [some_enc] at c1
  have ep := eq_pairs (someO r)
  have ie : (someO r).isEmpty = false := by
    cases h : someO r with
    | nil => exact absurd h P.ne
    | cons x y => rfl
  rw [ie] at ep
  generalize someO r = ps at *
  have kp : cap (ps.map eP) = some (ps.map eP) := cap_ok (by rw [List.length_map]; omega)
  have c2 : ∀ a2 a3, compL (tgN [4, 5]) cYes (eF m_is_integer (aC (eV 5) (aC (eC (.int 0)) (aC (e2 pySub (eF pyLen (aC (eV 1) aN)) (eC (.int 1))) aN)))) [some (eW w), some (eL l), a2, a3, none, none] (ps.map eP) = some (ps.map fun _ => .bool true) := fun a2 a3 =>
    compL_all eP (fun _ => .bool true) ps fun p hp => ⟨_, rfl, by
      have := (P.a p hp).2.1
      have h2 : ((p.2 : Nat) : Int) ≤ (l.length : Int) - 1 := by omega
      simp [ev_is_integer, h2]⟩
  have c3 : ∀ a2 a3, compL (tgN [4, 5]) cYes (e2 (pyIn false) (e2 pyIx (e2 pyIx (eV 1) (eV 5)) (eC (.int 1))) (e2 pyIx (e2 pyIx (eV 0) (eC (.int 0))) (eV 4))) [some (eW w), some (eL l), a2, a3, none, none] (ps.map eP) = some (ps.map fun _ => .bool true) := fun a2 a3 =>
    compL_all eP (fun _ => .bool true) ps fun p hp => ⟨_, rfl, by
      obtain ⟨h1, h2, h3⟩ := P.a p hp
      have hx := ix_L h2
      rw [List.getElem?_eq_getElem h1] at h3
      have h3' : (at_ l p.2).2 ∈ w.st[p.1] := h3
      simp [hx, h1, h3']⟩
  have c4 : ∀ a0 a1 a2 a3, compL (tgN [4, 5]) cYes (eV 5) [a0, a1, a2, a3, none, none] (ps.map eP) = some (ps.map fun p => .int ((p.2 : Nat) : Int)) := fun a0 a1 a2 a3 =>
    compL_all eP _ ps fun p hp => ⟨_, rfl, by simp⟩
  have pa : pyAll [.list (ps.map fun _ => .bool true)] = some (.bool true) := by
    rw [pyAll_m (fun _ => true)]
    simp
  have e5 : (ps.map fun p => PyData.int ((p.2 : Nat) : Int)) = (ps.map fun p => ((p.2 : Nat) : Int)).map .int := by
    rw [List.map_map]
    rfl
  have so : pySorted [.list ((ps.map fun p => ((p.2 : Nat) : Int)).map .int)] = some (.list ((sortI (ps.map fun p => ((p.2 : Nat) : Int))).map .int)) := by
    show ((intsD ((ps.map fun p => ((p.2 : Nat) : Int)).map .int)).bind fun ns => if ns.length < 64 then some (PyData.list ((sortI ns).map .int)) else none) = _
    rw [intsD_map, Option.bind_some, if_pos (by simp; omega)]
  obtain ⟨a, b, ha, hb, h1, h2⟩ := pairs_sorted P
  have nr := ev_are_near2 (w := w) hn he h1 h2 (P.a a ha).2.1 (P.a b hb).2.1
  rw [decide_eq_true (P.t b hb a ha)] at nr
  rw [← e5] at so
  have it : isT "tuple" (eOR r) = some true := isT_tuple _
  rw [c_is_any_chain]
  simp [g_is_any_chain, it, hr, enum_O, kr, c1, ep, kp, c2, pa, c3, c4, so, nr]
end Sb
end
section
set_option Elab.async false
set_option linter.all false
set_option maxRecDepth 100000
set_option maxHeartbeats 4000000
/-! Ev15: any order: right; and all that the law asks of one way and log. -/
namespace Sb
open PySem PySem.Spec L2
open PyProof.Rows hiding St

theorem max_pairs {w : Way} {l : Log} {ps : List (Nat × Nat)} (P : Prs w l ps) : ∃ a ∈ ps, pyMax1 [.list (ps.map fun p => .int ((p.2 : Nat) : Int))] = some (.int ((a.2 : Nat) : Int)) := by
  cases ps with
  | nil => exact absurd rfl P.ne
  | cons x r =>
    have e : ((x :: r).map fun p => PyData.int ((p.2 : Nat) : Int)) = .int ((x.2 : Nat) : Int) :: (r.map fun p => ((p.2 : Nat) : Int)).map .int := by
      rw [List.map_cons, List.map_map]
      rfl
    rw [e, pyMax1_l]
    rcases foldmax_mem (r.map fun p => ((p.2 : Nat) : Int)) ((x.2 : Nat) : Int) with h | h
    · exact ⟨x, List.mem_cons_self, by rw [h]⟩
    · obtain ⟨a, h1, h2⟩ := List.mem_map.mp h
      exact ⟨a, List.mem_cons_of_mem _ h1, by rw [← h2]⟩
theorem pyMin1_l (x : Int) (r : List Int) : pyMin1 [.list (.int x :: r.map .int)] = some (.int (r.foldl min x)) := by
  show (((intsD (.int x :: r.map .int)).bind minL).map PyData.int) = _
  have h := intsD_map (x :: r)
  rw [List.map_cons] at h
  rw [h]
  rfl
theorem min_pairs {w : Way} {l : Log} {ps : List (Nat × Nat)} (P : Prs w l ps) : ∃ a ∈ ps, pyMin1 [.list (ps.map fun p => .int ((p.2 : Nat) : Int))] = some (.int ((a.2 : Nat) : Int)) := by
  cases ps with
  | nil => exact absurd rfl P.ne
  | cons x r =>
    have e : ((x :: r).map fun p => PyData.int ((p.2 : Nat) : Int)) = .int ((x.2 : Nat) : Int) :: (r.map fun p => ((p.2 : Nat) : Int)).map .int := by
      rw [List.map_cons, List.map_map]
      rfl
    rw [e, pyMin1_l]
    rcases foldl_min_mem (r.map fun p => ((p.2 : Nat) : Int)) ((x.2 : Nat) : Int) with h | h
    · exact ⟨x, List.mem_cons_self, by rw [h]⟩
    · obtain ⟨a, h1, h2⟩ := List.mem_map.mp h
      exact ⟨a, List.mem_cons_of_mem _ h1, by rw [← h2]⟩
theorem ev_law_is_any {w : Way} {l : Log} {r : Ro} (lo : LogOk l) (h4 : w.st.length ≤ 4) (hr : r.length = w.st.length) (P : Prs w l (someO r)) : m_law_is_any [eW w, eL l, eOR r] = some (.bool true) := by
  have hn := lo.n
  have ht := ev_law_when l hn
  have hsl := some_len r
  have hsr : cntO r ≤ r.length := List.length_filter_le _ _
  have kr : cap ((r.zipIdx : List (Option Nat × Nat)).map fun p => PyData.tuple [.int ((p.2 : Nat) : Int), eO p.1]) = some ((r.zipIdx : List (Option Nat × Nat)).map fun p => PyData.tuple [.int ((p.2 : Nat) : Int), eO p.1]) := cap_ok (by simp; omega)
  have c1 : ∀ a0 a1 a2 a3 a4 a5 a6, compL (tgN [7, 8]) (fT (e2 pyNotN (eV 8) (eC .none))) (eTup (aC (eV 7) (aC (eV 8) aN))) [a0, a1, a2, a3, a4, a5, a6, none, none] ((r.zipIdx : List (Option Nat × Nat)).map fun p => .tuple [.int ((p.2 : Nat) : Int), eO p.1])
      = some (((r.zipIdx : List (Option Nat × Nat)).filter fun p => p.1.isSome).map fun p => .tuple [.int ((p.2 : Nat) : Int), eO p.1]) := fun a0 a1 a2 a3 a4 a5 a6 =>
    compL_eq (α := Option Nat × Nat) _ (fun p => p.1.isSome) (fun p => .tuple [.int ((p.2 : Nat) : Int), eO p.1]) _ fun x hx => ⟨_, rfl, by simp, fun _ => by simp⟩
  simp only [some_enc] at c1
  have ep := eq_pairs (someO r)
  have ie : (someO r).isEmpty = false := by
    cases h : someO r with
    | nil => exact absurd h P.ne
    | cons x y => rfl
  rw [ie] at ep
  generalize someO r = ps at *
  have kp : cap (ps.map eP) = some (ps.map eP) := cap_ok (by rw [List.length_map]; omega)
  have c3 : ∀ a2 a3 a4 a5 a6, compL (tgN [7, 8]) (fT (e2 (pyIn true) (e2 pyIx (e2 pyIx (eV 1) (eV 8)) (eC (.int 1))) (e2 pyIx (e2 pyIx (eV 0) (eC (.int 0))) (eV 7)))) (eC (.int 1)) [some (eW w), some (eL l), a2, a3, a4, a5, a6, none, none] (ps.map eP) = some ((ps.filter fun _ => false).map fun _ => .int 1) := fun a2 a3 a4 a5 a6 =>
    compL_eq eP (fun _ => false) (fun _ => .int 1) ps fun p hp => ⟨_, rfl, by
      obtain ⟨h1, h2, h3⟩ := P.a p hp
      have hx := ix_L h2
      rw [List.getElem?_eq_getElem h1] at h3
      have h3' : (at_ l p.2).2 ∈ w.st[p.1] := h3
      simp [hx, h1, h3'], fun q => by cases q⟩
  have ef : (ps.filter fun _ => false) = [] := by simp
  rw [ef] at c3
  have c4 : ∀ a0 a1 a2 a3 a4 a5 a6, compL (tgN [7, 8]) cYes (eV 8) [a0, a1, a2, a3, a4, a5, a6, none, none] (ps.map eP) = some (ps.map fun p => .int ((p.2 : Nat) : Int)) := fun a0 a1 a2 a3 a4 a5 a6 =>
    compL_all eP _ ps fun p hp => ⟨_, rfl, by simp⟩
  obtain ⟨a, ha, h1⟩ := max_pairs P
  obtain ⟨b, hb, h2⟩ := min_pairs P
  have t1 := tm_at (P.a a ha).2.1
  have t2 := tm_at (P.a b hb).2.1
  have tt := P.t a ha b hb
  have nn : pyNe (.list []) (.list []) = some (.bool false) := by
    have := ne_ints []
    simpa using this
  rw [c_law_is_any]
  simp [g_law_is_any, ht, hr, enum_O, kr, c1, ep, kp, c3, c4, h1, h2, t1, t2, tt, nn]
theorem eqv_O : ∀ r : Ro, PyData.eqvAll (r.map eO) (r.map eO) = true
  | [] => by simp [PyData.eqvAll]
  | n :: ns => by
    have ih := eqv_O ns
    cases n <;> simp [PyData.eqvAll, PyData.eqv, ih, eO]
theorem shn_eOR (r : Ro) : ShN 1 (eOR r) := shn_tuple fun d hd => by
  obtain ⟨x, _, rfl⟩ := List.mem_map.mp hd
  cases x with
  | none => exact shn_none
  | some n => exact shn_int _
theorem ev_right_any {w : Way} {l : Log} (lo : LogOk l) (hp : w.ps = .any) (ok : w.Ok) (hll : l.length ≤ 8) : m_law_chain_right [eW w, eL l, .int ((bestN w l l.length : Nat) : Int)] = some (.bool true) := by
  have s4 := ok.s4
  have hbl := best_len w l
  have hc := ev_chain_any ok lo hll hp (by omega)
  have hbc := best_count w l
  rw [c_law_chain_right]
  by_cases h0 : cntO (bestA w l) = 0
  · rw [if_pos h0] at hc
    rw [← hbc, h0]
    simp [g_law_chain_right, hc]
  · rw [if_neg h0] at hc
    have P := best_prs lo h0
    obtain ⟨hea, _⟩ := ok.an hp
    have h1 := ev_is_any_chain lo hea s4 hbl P
    have h2 := ev_law_is_any lo s4 hbl P
    rw [← hbc]
    have hn0 : ¬ ((cntO (bestA w l) : Nat) : Int) = 0 := by omega
    generalize bestA w l = b at *
    have hic : m_is_chain [eW w, eL l, eOR b] = some (.bool true) := by
      rw [c_is_chain]
      have hci : m_is_chain_in [eW w, eL l, eOR b] = some (.bool true) := by
        rw [c_is_chain_in]
        simp [g_is_chain_in, hp, h1]
      simp [g_is_chain, ev_need_way w ok, ev_need_log l lo, hci]
    have ne : pyNe (eOR b) (eOR b) = some (.bool false) := by
      rw [pyNe_of (shn_eOR b) (shn_eOR b)]
      unfold eOR
      simp [PyData.eqv, eqv_O]
    have i1 : pyIsN (eOR b) .none = some (.bool false) := rfl
    have it : isT "tuple" (eOR b) = some true := isT_tuple _
    have nb : pyNotB (.bool true) (.bool true) = some (.bool false) := rfl
    have c1 : ∀ a0 a1 a2 a3, compL (tg1 4) (fT (e2 pyNotN (eV 4) (eC .none))) (eV 4) [a0, a1, a2, a3, none] (b.map eO) = some ((b.filter fun x => x.isSome).map eO) := fun a0 a1 a2 a3 =>
      compL_eq eO (fun x => x.isSome) eO b fun x hx => ⟨_, rfl, by simp, fun _ => by simp⟩
    have kb : cap (b.map eO) = some (b.map eO) := cap_ok (by rw [List.length_map]; omega)
    unfold cntO at hn0 h0 ⊢
    have h0' : (b.filter fun x => x.isSome) ≠ [] := fun q => h0 (by rw [q]; rfl)
    generalize (b.filter fun x => x.isSome) = fb at *
    simp [g_law_chain_right, hc, h0', i1, it, hic, nb, ne, hp, h2, kb, c1]
/-- a first step came -/
def begun0 (w : Way) (l : Log) : Bool := l.any fun e => decide (e.2 ∈ (w.st[0]?).getD [])
theorem begun_iff (w : Way) (l : Log) : begun0 w l = true ↔ ∃ i, i < l.length ∧ kd l i ∈ (w.st[0]?).getD [] := by
  unfold begun0
  rw [List.any_eq_true]
  constructor
  · rintro ⟨e, h1, h2⟩
    obtain ⟨i, hi⟩ := List.getElem?_of_mem h1
    have hl := (List.getElem?_eq_some_iff.mp hi).1
    rw [at_at hl] at hi
    refine ⟨i, hl, ?_⟩
    unfold kd
    rw [Option.some.inj hi]
    exact of_decide_eq_true h2
  · rintro ⟨i, h1, h2⟩
    exact ⟨at_ l i, at_mem h1, decide_eq_true h2⟩
/-- what the law asks of one way and one log -/
theorem all_right {w : Way} {l : Log} (ok : w.Ok) (lo : LogOk l) (hll : l.length ≤ 8) : ∃ (d : Int) (ages : PyData), m_law_level [eW w, eL l] = some (.int d) ∧ m_level [eW w, eL l] = some (.int d) ∧
    m_law_chain_right [eW w, eL l, .int d] = some (.bool true) ∧ m_standing_of [eW w, eL l] = some (.tuple [.int d, .bool (begun0 w l), ages]) ∧ 0 ≤ d ∧ d ≤ 4 := by
  have h1 := ev_standing_of w l ok lo
  have h2 := ev_level w l ok lo
  by_cases hp : w.ps = .any
  · have A := behindA_ok ok lo hp
    have hb : (behindAll w l).begun = begun0 w l := by rw [Bool.eq_iff_iff, A.bg, begun_iff]
    have hle : bestN w l l.length ≤ 4 := by
      rw [← best_count]
      have := List.length_filter_le (fun x : Option Nat => x.isSome) (bestA w l)
      have := best_len w l
      have := ok.s4
      unfold cntO
      omega
    have h3 : m_law_level [eW w, eL l] = some (.int ((bestN w l l.length : Nat) : Int)) := by
      rw [c_law_level]
      simp [g_law_level, hp, ev_law_most_near hll ok.s4]
    rw [A.b] at h2
    refine ⟨_, eAs (behindAll w l).ages, h3, h2, ev_right_any lo hp ok hll, ?_, by omega, by omega⟩
    rw [h1]
    unfold eS
    rw [A.b, hb]
  · obtain ⟨d, h3, M⟩ := ev_law_level lo hp ok hll
    obtain ⟨d', h4, M'⟩ := behind_most ok lo hp
    have e := M'.eq M
    subst e
    have S := behind_ok ok lo hp
    have hb : (behindAll w l).begun = begun0 w l := by rw [Bool.eq_iff_iff, S.bg, begun_iff]
    rw [h4] at h2
    have hle : d' ≤ 4 := by
      rcases M.a with q | ⟨s, n, q⟩
      · omega
      · have := (kc_le q).2.1
        have := ok.s4
        omega
    refine ⟨_, eAs (behindAll w l).ages, h3, h2, ev_right_rows lo hp ok M, ?_, by omega, by omega⟩
    rw [h1]
    unfold eS
    rw [h4, hb]
end Sb
end
section
set_option Elab.async false
set_option linter.all false
set_option maxRecDepth 100000
set_option maxHeartbeats 4000000
/-! Hn1: the law's own drawing machine: its state, draw, of. -/
namespace Sb
open PySem PySem.Spec L2
open PyProof.Rows hiding St

/-! ### the machine -/
abbrev kS (x : Str) : Key := Sum.inr x
def mk (a s : Int) (c : Addr) (p : Int) : List (Key × V) := [(kS "left", .int a), (kS "seed", .int s), (kS "cells", .ref c), (kS "spot", .int p)]
theorem nLS : ¬ kS "left" = kS "seed" := by decide +kernel
theorem nLC : ¬ kS "left" = kS "cells" := by decide +kernel
theorem nLP : ¬ kS "left" = kS "spot" := by decide +kernel
theorem nSC : ¬ kS "seed" = kS "cells" := by decide +kernel
theorem nSP : ¬ kS "seed" = kS "spot" := by decide +kernel
theorem nCP : ¬ kS "cells" = kS "spot" := by decide +kernel
theorem mk_left (a s : Int) (c : Addr) (p : Int) : valV (mk a s c p) (kS "left") = some (.int a) := valV_pos rfl
theorem mk_seed (a s : Int) (c : Addr) (p : Int) : valV (mk a s c p) (kS "seed") = some (.int s) := (valV_neg nLS).trans (valV_pos rfl)
theorem mk_cells (a s : Int) (c : Addr) (p : Int) : valV (mk a s c p) (kS "cells") = some (.ref c) := (valV_neg nLC).trans ((valV_neg nSC).trans (valV_pos rfl))
theorem mk_spot (a s : Int) (c : Addr) (p : Int) : valV (mk a s c p) (kS "spot") = some (.int p) := (valV_neg nLP).trans ((valV_neg nSP).trans ((valV_neg nCP).trans (valV_pos rfl)))
theorem put_left (a s : Int) (c : Addr) (p b : Int) : putK (mk a s c p) (kS "left") (.int b) = mk b s c p := by
  have h : ((mk a s c p).any fun kv => decide (kv.1 = kS "left")) = true := by rw [valV_any, mk_left]; rfl
  unfold putK
  rw [if_pos h]
  unfold mk
  simp only [List.map_cons, List.map_nil]
  rw [if_pos trivial, if_neg (fun q => nLS q.symm), if_neg (fun q => nLC q.symm), if_neg (fun q => nLP q.symm)]
theorem put_spot (a s : Int) (c : Addr) (p b : Int) : putK (mk a s c p) (kS "spot") (.int b) = mk a s c b := by
  have h : ((mk a s c p).any fun kv => decide (kv.1 = kS "spot")) = true := by rw [valV_any, mk_spot]; rfl
  unfold putK
  rw [if_pos h]
  unfold mk
  simp only [List.map_cons, List.map_nil]
  rw [if_pos trivial, if_neg nLP, if_neg nSP, if_neg nCP]
/-- the machine stands at M, its cells at c; it was asked at most n times -/
def Mst (n : Nat) (M c : Addr) (ns : List Int) (H : Hp) : Prop := ∃ a s p, H M = some (.dK (mk a s c p)) ∧ H c = some (.lst (ns.map V.int)) ∧ ns ≠ [] ∧ ns.length ≤ 1000 ∧ 0 ≤ p ∧ p ≤ (n : Int)
/-- all is kept but M -/
def MM (M : Addr) (H H' : Hp) : Prop := ∀ b o, b ≠ M → H b = some o → H' b = some o
theorem MM.refl (M : Addr) (H : Hp) : MM M H H := fun _ _ _ h => h
theorem MM.trans {M : Addr} {H H1 H2 : Hp} (a : MM M H H1) (b : MM M H1 H2) : MM M H H2 := fun x o n h => b x o n (a x o n h)
theorem MM.of {M : Addr} {H H' : Hp} (s : Same H H') : MM M H H' := fun b o _ h => s b o h
theorem Mst.keep {n : Nat} {M c : Addr} {ns : List Int} {H H' : Hp} (h : Mst n M c ns H) (s : Same H H') : Mst n M c ns H' := by
  obtain ⟨a, b, p, h1, h2, h3⟩ := h
  exact ⟨a, b, p, s _ _ h1, s _ _ h2, h3⟩
theorem Mst.mono {n m : Nat} {M c : Addr} {ns : List Int} {H : Hp} (h : Mst n M c ns H) (l : n ≤ m) : Mst m M c ns H := by
  obtain ⟨a, b, p, h1, h2, h3, h4, h5, h6⟩ := h
  exact ⟨a, b, p, h1, h2, h3, h4, h5, by omega⟩
theorem Mst.at {n : Nat} {M c : Addr} {ns : List Int} {H : Hp} (h : Mst n M c ns H) : ∃ o, H M = some o := by
  obtain ⟨a, b, p, h1, _⟩ := h
  exact ⟨_, h1⟩
theorem Mst.ofc {n : Nat} {M c : Addr} {ns : List Int} {H : Hp} (h : Mst n M c ns H) : H c ≠ none := by
  obtain ⟨a, b, p, _, h2, _⟩ := h
  rw [h2]
  exact fun z => nomatch z
theorem Mst.ofM {n : Nat} {M c : Addr} {ns : List Int} {H : Hp} (h : Mst n M c ns H) : H M ≠ none := by
  obtain ⟨a, b, p, h1, _⟩ := h
  rw [h1]
  exact fun z => nomatch z
theorem Mst.put {n : Nat} {M c D : Addr} {ns : List Int} {H : Hp} {o : HO} (h : Mst n M c ns H) (h1 : M ≠ D) (h2 : c ≠ D) : Mst n M c ns (upd H D o) := by
  obtain ⟨a, b, p, h3, h4, h5⟩ := h
  exact ⟨a, b, p, by rw [upd_ne h1]; exact h3, by rw [upd_ne h2]; exact h4, h5⟩
theorem MM.upd {M : Addr} {H : Hp} {o : HO} : MM M H (upd H M o) := fun b x n h => by
  rw [upd_ne n]
  exact h
def spDraw : Sp := fun vs H Q _ => ∃ (n : Nat) (M c : Addr) (ns : List Int) (k : Int), vs = [.ref M, .int k] ∧ 0 < k ∧ k < 1000 ∧ n ≤ 1000000 ∧ Mst n M c ns H ∧ ∀ r H', 0 ≤ r → r < k → MM M H H' → Mst (n + 1) M c ns H' → Q (.int r) H'
abbrev sT_law_begun : Stmt := topS 48
abbrev sT_law_draw : Stmt := topS 49
abbrev sT_law_of : Stmt := topS 50
abbrev sT_law_some : Stmt := topS 51
abbrev sT_law_way : Stmt := topS 52
abbrev sT_law_log : Stmt := topS 53
abbrev sT_law : Stmt := topS 62
theorem sc_law_draw : FnScope ["_law_m", "_law_many", "_law_found", "_law_spot", "_law_cells", "_law_added", "_law_cell", "_law_blend"] ["_law_m", "_law_many"] (defScope sT_law_draw) := ⟨rfl, rfl, rfl, by decide +kernel, rfl, by decide +kernel, by decide +kernel⟩
section
variable {X : Cx} {pos p1 p2 : Pos} {i : Nat} {y : Str} {e : Expr} {te : TE}
/-- m["key"] -/
def tG (i : Nat) (key : Str) : TE := fun σ H Q => ∃ M kvs v, σ[i]? = some (some (.ref M)) ∧ H M = some (.dK kvs) ∧ valV kvs (kS key) = some v ∧ Q v H
theorem pe_g {x key : Str} {j} (hu : X.A.units + 1 < cLine) (hv : PE X (.Name x p1) (tVar i)) : PE X (.Subscript (.Name x p1) (.Constant (.str key) j p2) pos) (tG i key) :=
  PE.weak (pe_dget hu hv pe_str fun _ _ => rfl) fun σ H Q ⟨M, kvs, v, h1, h2, h3, q⟩ => ⟨_, h1, M, v, rfl, by rw [← h3]; exact DGet.k (k := kS key) h2, q⟩
/-- m["key"] = e -/
def tP (i : Nat) (key : Str) (te : TE) : TS := fun D σ H => te σ H fun v H1 => ∃ M kvs, σ[i]? = some (some (.ref M)) ∧ H1 M = some (.dK kvs) ∧ kvs.length < sizeLine ∧ D.nx σ (upd H1 M (.dK (putK kvs (kS key) v)))
theorem ps_p {x key : Str} {j} {p3 : Pos} (hu : X.A.units + 1 < cLine) (hv : PE X (.Name x p1) (tVar i)) (he : PE X e te) (mono : ∀ σ H (Q Q' : VK), te σ H Q → (∀ v H', Q v H' → Q' v H') → te σ H Q')
    (hs : swapsWith e (some (.Subscript (.Name x p1) (.Constant (.str key) j p2) p3)) pos.line X.env = pure false := by rfl) : PS X (.Assign [.Subscript (.Name x p1) (.Constant (.str key) j p2) p3] e pos) (tP i key te) :=
  PS.weak (ps_dput hu hv pe_str he hs) fun D σ H h => mono σ H _ _ h fun v H1 ⟨M, kvs, h1, h2, h3, q⟩ => ⟨_, h1, M, _, rfl, DPut.k (k := kS key) h2 h3, q⟩
end
end Sb
end
section
set_option Elab.async false
set_option linter.all false
set_option maxRecDepth 100000
set_option maxHeartbeats 4000000
/-! Hn2: draw. -/
namespace Sb
open PySem PySem.Spec L2
open PyProof.Rows hiding St
section
variable {P : Program} {w : World} {K : PySem.W.Frag} {mg : Str → Option Value} {base : Heap}
theorem len_mk (a s : Int) (c : Addr) (p : Int) : (mk a s c p).length < sizeLine := by show 4 < sizeLine; decide
theorem small (p : Int) (h0 : 0 ≤ p) (h : p ≤ 1000000) : -(2 ^ 64) < p ∧ p < 2 ^ 64 := by omega
theorem atI_mod (ns : List Int) (p : Int) (hne : ns ≠ []) : ∃ z, atI (ns.map V.int) (p % ((ns.map V.int).length : Nat)) = some (.int z) := by
  have hl : 0 < ns.length := by
    cases ns with
    | nil => exact absurd rfl hne
    | cons x y => simp
  rw [List.length_map]
  have h0 := Int.emod_nonneg p (show ((ns.length : Nat) : Int) ≠ 0 by omega)
  have h1 := Int.emod_lt_of_pos p (show (0 : Int) < ((ns.length : Nat) : Int) by omega)
  obtain ⟨m, hm⟩ : ∃ m : Nat, p % ((ns.length : Nat) : Int) = (m : Nat) := ⟨(p % ((ns.length : Nat) : Int)).toNat, by omega⟩
  rw [hm, atI_nat, List.getElem?_map, List.getElem?_eq_getElem (by omega)]
  exact ⟨_, rfl⟩
theorem ok_law_draw (M : Mg mg) (F : Df K mg "_law_draw" sT_law_draw ["_law_m", "_law_many"]) : Dk P w K mg base 1 "_law_draw" ["_law_m", "_law_many"] spDraw := by
  obtain ⟨f, fd, h1, h2, h3⟩ := F.ex
  refine ⟨f, fd, ?_, h2, h1.kp, h3⟩
  refine h1.ok sc_law_draw (fun vs H Q E h => ?_) (fun cdv A outer s H vs Q E hr h => ?_)
  · obtain ⟨n, M, c, ns, k, rfl, _⟩ := h
    rfl
  · obtain ⟨n, m, c, ns, k, rfl, hk, hk2, hn, ⟨a, sd, p, hM, hc, hne, hlen, hp0, hpn⟩, q⟩ := h
    have hu := hr.units
    have hu1 : (A.deeper (envOfC "_law_draw" (defScope sT_law_draw) s.heap.objs.size f cdv)).units + 1 < cLine := by omega
    have cm : c ≠ m := fun e => by
      rw [e, hM] at hc
      cases hc
    refine ⟨_, pss_cons (ps_if (pt_cmpR op_gt (pe_g hu1 (pv 0)) pe_int (nomark _))
        (pss_cons (ps_set (i := 2) sc_law_draw.nd rfl (Or.inl rfl) (pe_op op_mod (pe_callTy call_int1 (by rfl) M.int boot_int (pa_cons (pe_g hu1 (pv 0)) pa_nil)) (pv 1)))
        (pss_cons (ps_dput hu1 (pv 0) pe_str (pe_op op_fdiv (pe_g hu1 (pv 0)) (pv 1)) rfl)
        (pss_one (ps_ret (pv 2))))) pss_nil)
      (pss_cons (ps_set (i := 3) sc_law_draw.nd rfl (Or.inl rfl) (pe_g hu1 (pv 0)))
      (pss_cons (ps_dput hu1 (pv 0) pe_str (pe_op op_add (pv 3) pe_int) rfl)
      (pss_cons (ps_par (i := 4) (j := 5) rfl sc_law_draw.nd rfl rfl (by decide) rfl rfl (pa_cons (pe_g hu1 (pv 0)) (pa_cons (pe_op op_add (pe_g hu1 (pv 0)) (pe_op op_mul (pe_op op_mul pe_int (pv 3)) (pv 3))) pa_nil)) rfl rfl)
      (pss_cons (ps_set (i := 6) sc_law_draw.nd rfl (Or.inl rfl) (pe_ix ix_list (pv 4) (pe_op op_mod (pe_callTy call_int1 (by rfl) M.int boot_int (pa_cons (pv 3) pa_nil)) (pe_callB call_len_seq (by rfl) M.len PySem.boot_len (pa_cons (pv 4) pa_nil))) (fun _ _ => rfl)))
      (pss_cons (ps_set (i := 7) sc_law_draw.nd rfl (Or.inl rfl) (pe_op op_mod (pe_callTy call_int1 (by rfl) M.int boot_int (pa_cons (pe_op op_add (pe_op op_mul (pv 6) (pe_op op_add (pe_op op_mul pe_int (pv 3)) pe_int)) (pv 5)) pa_nil)) pe_int))
      (pss_cons (ps_set (i := 7) sc_law_draw.nd rfl (Or.inl rfl) (pe_op op_mod (pe_callTy call_int1 (by rfl) M.int boot_int (pa_cons (pe_op op_add (pe_op op_add (pe_op op_mul (pv 7) (pv 7)) (pe_op op_mul pe_int (pv 3))) (pe_g hu1 (pv 0))) pa_nil)) pe_int))
      (pss_one (ps_ret (pe_op op_mod (pe_op op_fdiv (pe_op op_mod (pe_callTy call_int1 (by rfl) M.int boot_int (pa_cons (pe_op op_add (pe_op op_mul (pv 7) pe_int) (pv 3)) pa_nil)) pe_int) pe_int) (pv 1)))))))))), ?_⟩
    refine ⟨m, _, _, rfl, hM, mk_left .., _, _, rfl, rfl, _, rfl, ?_⟩
    refine ite2 (fun _ => ?_) (fun _ => ?_)
    · refine ⟨m, _, _, rfl, hM, mk_left .., .inl ⟨_, rfl, _, rfl, _, _, rfl, rfl, hk, ?_⟩⟩
      refine ⟨m, _, _, rfl, hM, mk_left .., _, rfl, _, _, rfl, rfl, ⟨hk, by omega⟩, ?_⟩
      refine ⟨_, rfl, m, _, rfl, DPut.k (k := kS "left") hM (len_mk ..), ?_⟩
      refine ⟨_, rfl, ?_⟩
      rw [put_left]
      exact q _ _ (Int.emod_nonneg _ (by omega)) (Int.emod_lt_of_pos _ hk) MM.upd ⟨_, sd, p, upd_same, by rw [upd_ne cm]; exact hc, hne, hlen, hp0, by omega⟩
    · refine ⟨m, _, _, rfl, hM, mk_spot .., ?_⟩
      refine ⟨_, rfl, _, _, rfl, rfl, ?_⟩
      refine ⟨_, rfl, m, _, rfl, DPut.k (k := kS "spot") hM (len_mk ..), ?_⟩
      rw [put_spot]
      generalize hH1 : upd H m (.dK (mk a sd c (p + 1))) = H1
      have hM1 : H1 m = some (.dK (mk a sd c (p + 1))) := by rw [← hH1]; exact upd_same
      have hc1 : H1 c = some (.lst (ns.map V.int)) := by rw [← hH1, upd_ne cm]; exact hc
      have hmm : MM m H H1 := by rw [← hH1]; exact MM.upd
      have hst : Mst (n + 1) m c ns H1 := ⟨_, _, _, hM1, hc1, hne, hlen, by omega, by omega⟩
      have b1 : (-(2 ^ 64) < p ∧ p < 2 ^ 64) := by omega
      have b2 : ∀ z : Int, CMul z p := fun z => .inr b1
      have lenp : (0 : Int) < ((ns.map V.int).length : Nat) := by
        rw [List.length_map]
        cases ns with
        | nil => exact absurd rfl hne
        | cons x y => simp
      obtain ⟨z, hz⟩ := atI_mod ns p hne
      refine ⟨m, _, _, rfl, hM1, mk_cells .., m, _, _, rfl, hM1, mk_seed .., _, rfl, _, _, rfl, rfl, b2 _, _, rfl, _, _, rfl, rfl, b2 _, _, _, rfl, rfl, _, _, rfl, ?_⟩
      refine ⟨_, rfl, _, rfl, .inl ⟨_, rfl, _, rfl, c, _, rfl, .inl (SqL.of hc1), _, _, rfl, rfl, lenp, c, _, _, .int z, rfl, rfl, SqL.of hc1, hz, ?_⟩⟩
      refine ⟨_, rfl, _, rfl, _, _, rfl, rfl, b2 _, _, _, rfl, rfl, _, _, rfl, rfl, .inr (by omega), _, rfl, _, _, rfl, rfl, .inl ⟨_, rfl, _, _, rfl, rfl, (by show (0 : Int) < 2147483647; decide), ?_⟩⟩
      generalize hb1 : (z * (2 * p + 3) + (sd + 40503 * p * p)) % 2147483647 = bl1
      have hb10 : 0 ≤ bl1 := by rw [← hb1]; exact Int.emod_nonneg _ (by decide)
      have hb11 : bl1 < 2147483647 := by rw [← hb1]; exact Int.emod_lt_of_pos _ (by decide)
      refine ⟨_, rfl, _, rfl, _, _, rfl, rfl, .inl (by omega), _, rfl, _, _, rfl, rfl, b2 _, _, _, rfl, rfl, m, _, _, rfl, hM1, mk_seed .., _, _, rfl, rfl, .inl ⟨_, rfl, _, _, rfl, rfl, (by show (0 : Int) < 2147483629; decide), ?_⟩⟩
      generalize hb2 : (bl1 * bl1 + 69621 * p + sd) % 2147483629 = bl2
      have hb20 : 0 ≤ bl2 := by rw [← hb2]; exact Int.emod_nonneg _ (by decide)
      have hb21 : bl2 < 2147483629 := by rw [← hb2]; exact Int.emod_lt_of_pos _ (by decide)
      refine ⟨_, rfl, _, _, rfl, rfl, .inl (by omega), _, rfl, _, _, rfl, rfl, .inl ⟨_, rfl, _, _, rfl, rfl, (by show (0 : Int) < 2147483647; decide), _, _, rfl, rfl, ⟨(by decide), (by decide)⟩, _, rfl, _, _, rfl, rfl, hk, ?_⟩⟩
      exact q _ _ (Int.emod_nonneg _ (by omega)) (Int.emod_lt_of_pos _ hk) hmm hst
end
end Sb
end
section
set_option Elab.async false
set_option linter.all false
set_option maxRecDepth 100000
set_option maxHeartbeats 4000000
/-! Hn3: of, some. -/
namespace Sb
open PySem PySem.Spec L2
open PyProof.Rows hiding St

/-! ### the heap without the machine -/
def cut (M : Addr) (H : Hp) : Hp := fun b => if b = M then none else H b
theorem cut_same (M : Addr) (H : Hp) : Same (cut M H) H := fun b o h => by
  unfold cut at h
  split at h
  · cases h
  · exact h
theorem cut_mm {M : Addr} {H H' : Hp} (m : MM M H H') : Same (cut M H) (cut M H') := fun b o h => by
  unfold cut at h ⊢
  split at h
  · cases h
  · rename_i n
    rw [if_neg n]
    exact m b o n h
theorem cut_mv {M : Addr} {H G' H' : Hp} (m : Mv (cut M H) H G' H') (h : ∃ o, H M = some o) : Same G' (cut M H') := fun b o e => by
  have h0 : G' M = none := m.f M (if_pos rfl) h
  have n : b ≠ M := fun q => by
    rw [q, h0] at e
    cases e
  unfold cut
  rw [if_neg n]
  exact m.s b o e
/-- data that does not lean on the machine -/
def DaM (M : Addr) (H : Hp) (v : V) (d : PyData) : Prop := Da (cut M H) v d
theorem DaM.keep {M : Addr} {H H' : Hp} {v : V} {d : PyData} (h : DaM M H v d) (m : MM M H H') : DaM M H' v d := h.mono (cut_mm m)
theorem ek_nil {G : Hp} : EnvOk G [] [] := ⟨rfl, fun i d h => by cases h⟩
theorem ek_no {G : Hp} {σ : St} {env : En} (o : Option V) (h : EnvOk G σ env) : EnvOk G (o :: σ) (none :: env) := ⟨by rw [List.length_cons, List.length_cons, h.len], fun i d e => by
  cases i with
  | zero => cases e
  | succ i => exact h.get i d e⟩
theorem ek_da {G : Hp} {σ : St} {env : En} {v : V} {d : PyData} (r : Da G v d) (h : EnvOk G σ env) : EnvOk G (some v :: σ) (some d :: env) := ⟨by rw [List.length_cons, List.length_cons, h.len], fun i e q => by
  cases i with
  | zero =>
    cases q
    exact ⟨v, rfl, r⟩
  | succ i => exact h.get i e q⟩
theorem td_run {f : En → Option PyData} {M : Addr} {σ : St} {H : Hp} {Q : VK} {env : En} {d : PyData} (ok : EnvOk (cut M H) σ env) (h : f env = some d) (hM : ∃ o, H M = some o) (q : ∀ v H', Same H H' → DaM M H' v d → Q v H') : tD f σ H Q :=
  ⟨cut M H, env, d, cut_same M H, ok, h, fun v _ H' m r => q v H' m.h (r.mono (cut_mv m hM))⟩
theorem tt_do {f : En → Option Bool} {M : Addr} {σ : St} {H : Hp} {Q : Bool → Hp → Prop} {env : En} {b : Bool} (ok : EnvOk (cut M H) σ env) (h : f env = some b) (q : ∀ H', Same H H' → Q b H') : tT f σ H Q :=
  ⟨cut M H, env, b, cut_same M H, ok, h, fun _ H' m => q H' m.h⟩
theorem da_ints {G : Hp} : ∀ ns : List Int, DaAll G (ns.map V.int) (ns.map .int)
  | [] => .nil
  | n :: ns => .cons (.int n) (da_ints ns)
theorem cut_get {M : Addr} {H : Hp} {b : Addr} {o : HO} (h : H b = some o) (n : b ≠ M) : cut M H b = some o := (if_neg n).trans h
section
variable {X : Cx} {x : Str} {pos p : Pos} {e : Expr} {es : List Expr} {t : TA}
theorem pe_dk {k : Nat} {ps : List Str} {sp : Sp} (D : Dk X.prog X.w X.K X.mg X.base k x ps sp) (hr : Room k X.A) (ha : PA X (e :: es) t)
    (hg : Gl X x := by rfl) (hdb : (x == ("__debug__" : Str)) = false := by decide) (he : starEach (e :: es) X.env = (false, eval e X.env) :: starEach es X.env := by rfl)
    (hpl : (backTo pos (starEach es X.env)).any (·.1) = false := by rfl) : PE X (.Call (.Name x p) (e :: es) [] pos) (tCall sp [] E0 t) := by
  obtain ⟨f, fd, h1, h2, h3, h4⟩ := D.ex
  exact pe_call (CX := CX0) h1 hr hg h2 h3 h4 .nil pass0 ha hdb he hpl
end
def spOf : Sp := fun vs H Q _ => ∃ (n : Nat) (M c l : Addr) (ns : List Int) (xs : List V), vs = [.ref M, .ref l] ∧ H l = some (.lst xs) ∧ xs ≠ [] ∧ xs.length < 1000 ∧ n ≤ 1000000 ∧ Mst n M c ns H ∧
  ∀ x H', x ∈ xs → MM M H H' → Mst (n + 1) M c ns H' → Q x H'
theorem sc_law_of : FnScope ["_law_m", "_law_some_here"] ["_law_m", "_law_some_here"] (defScope sT_law_of) := ⟨rfl, rfl, rfl, by decide +kernel, rfl, by decide +kernel, by decide +kernel⟩
theorem atI_lt {xs : List V} {r : Int} (h0 : 0 ≤ r) (h1 : r < (xs.length : Nat)) : ∃ v, atI xs r = some v ∧ v ∈ xs := by
  obtain ⟨m, rfl⟩ : ∃ m : Nat, r = (m : Nat) := ⟨r.toNat, by omega⟩
  rw [atI_nat, List.getElem?_eq_getElem (by omega)]
  exact ⟨_, rfl, List.getElem_mem _⟩
section
variable {P : Program} {w : World} {K : PySem.W.Frag} {mg : Str → Option Value} {base : Heap}
theorem ok_law_of (M : Mg mg) (F : Df K mg "_law_of" sT_law_of ["_law_m", "_law_some_here"]) (D1 : Dk P w K mg base 1 "_law_draw" ["_law_m", "_law_many"] spDraw) : Dk P w K mg base 2 "_law_of" ["_law_m", "_law_some_here"] spOf := by
  obtain ⟨f, fd, h1, h2, h3⟩ := F.ex
  refine ⟨f, fd, ?_, h2, h1.kp, h3⟩
  refine h1.ok sc_law_of (fun vs H Q E h => ?_) (fun cdv A outer s H vs Q E hr h => ?_)
  · obtain ⟨n, M, c, l, ns, xs, rfl, _⟩ := h
    rfl
  · obtain ⟨n, m, c, l, ns, xs, rfl, hl, hx, hlen, hn, st, q⟩ := h
    refine ⟨_, pss_one (ps_ret (pe_ix ix_list (pv 1) (pe_dk D1 (hr.mono (by decide)) (pa_cons (pv 0) (pa_cons (pe_callB call_len_seq (by rfl) M.len PySem.boot_len (pa_cons (pv 1) pa_nil)) pa_nil))) (fun _ _ => rfl))), ?_⟩
    have hpos : 0 < xs.length := by
      cases xs with
      | nil => exact absurd rfl hx
      | cons x y => simp
    have lm : l ≠ m := fun e => by
      obtain ⟨_, _, _, hM, _⟩ := st
      rw [e, hM] at hl
      cases hl
    refine ⟨_, rfl, _, rfl, _, rfl, l, _, rfl, .inl (SqL.of hl), n, m, c, ns, _, rfl, by omega, by omega, hn, st, fun r H' h0 hr' mm st' => ?_⟩
    obtain ⟨v, hv, hm⟩ := atI_lt h0 hr'
    exact ⟨l, xs, r, v, rfl, rfl, SqL.of (mm _ _ lm hl), hv, q v H' hm mm st'⟩
end
end Sb
end
section
set_option Elab.async false
set_option linter.all false
set_option maxRecDepth 100000
set_option maxHeartbeats 4000000
/-! Hn4: some. -/
namespace Sb
open PySem PySem.Spec L2
open PyProof.Rows hiding St

structure KsOk (b : Int) (ks : List Int) : Prop where
  ne : ks ≠ []
  up : ks.Pairwise (· < ·)
  lt : ∀ x ∈ ks, 0 ≤ x ∧ x < b
def spSome : Sp := fun vs H Q _ => ∃ (n : Nat) (M c : Addr) (ns : List Int), vs = [.ref M, .int 3, .int 4] ∧ n ≤ 900000 ∧ Mst n M c ns H ∧
  ∀ v ks H', KsOk 3 ks → DaM M H' v (eKs ks) → MM M H H' → Mst (n + 4) M c ns H' → Q v H'
theorem sc_law_some : FnScope ["_law_m", "_law_most", "_law_share", "_law_found", "_law_k"] ["_law_m", "_law_most", "_law_share"] (defScope sT_law_some) := ⟨rfl, rfl, rfl, by decide +kernel, rfl, by decide +kernel, by decide +kernel⟩
theorem ascI_len {ks : List Int} {b : Nat} (h : ks.Pairwise (· < ·)) (hl : ∀ x ∈ ks, 0 ≤ x ∧ x < (b : Int)) : ks.length ≤ b := by
  have h2 : (ks.map Int.toNat).Pairwise (· < ·) := by
    rw [List.pairwise_map]
    refine List.Pairwise.imp_of_mem (fun {x y} hx hy q => ?_) h
    have := hl x hx
    have := hl y hy
    omega
  have := len_up (k := 0) h2 (fun _ _ => Nat.zero_le _) b fun n hn => by
    obtain ⟨x, hx, rfl⟩ := List.mem_map.mp hn
    have := hl x hx
    omega
  simpa using this
section
variable {P : Program} {w : World} {K : PySem.W.Frag} {mg : Str → Option Value} {base : Heap}
theorem ok_law_some (M : Mg mg) (F : Df K mg "_law_some" sT_law_some ["_law_m", "_law_most", "_law_share"]) (D1 : Dk P w K mg base 1 "_law_draw" ["_law_m", "_law_many"] spDraw) : Dk P w K mg base 2 "_law_some" ["_law_m", "_law_most", "_law_share"] spSome := by
  obtain ⟨f, fd, h1, h2, h3⟩ := F.ex
  refine ⟨f, fd, ?_, h2, h1.kp, h3⟩
  refine h1.ok sc_law_some (fun vs H Q E h => ?_) (fun cdv A outer s H vs Q E hr h => ?_)
  · obtain ⟨n, M, c, ns, rfl, _⟩ := h
    rfl
  · obtain ⟨n, m, c, ns, rfl, hn, st, q⟩ := h
    refine ⟨_, pss_cons (ps_setLc (i := 3) rfl sc_law_some.nd rfl rfl (sw_true rfl rfl rfl (by decide +kernel)) (pi_range1 (by rfl) M.range (pa_cons (pv 1) pa_nil)) (own := [("_law_k", 4)])
        (blkOk_by (N := ["_law_m", "_law_most", "_law_share", "_law_found", "_law_k"]) (sc := defScope sT_law_some) (by decide +kernel)) (fun _ _ _ _ _ => pg_name (i := 4) sc_law_some.nd rfl (Or.inl rfl))
        (fun _ _ _ _ _ => pts_one (pt_cmpR op_eq (pe_dk D1 (hr.mono (by decide)) (pa_cons (pv 0) (pa_cons (pv 2) pa_nil))) pe_int (nomark _))) (fun _ _ _ _ _ => pv 4))
      (pss_one (ps_ret (pe_ifExp (td_cmp (op_neD hr.units) rd_ne (pd_var 3) (pd_lst da_nil)) (pd_callTy call_tuple_of rd_tuple M.tuple boot_tuple (da_cons (pd_var 3) da_nil)) (pe_tup (pa_cons (pe_dk D1 (hr.mono (by decide)) (pa_cons (pv 0) (pa_cons (pv 1) pa_nil))) pa_nil))))), ?_⟩
    refine ⟨_, rfl, 3, rfl, by decide, by decide, fun D hD => ?_⟩
    have cD : c ≠ D := fun e => st.ofc (by rw [e]; exact hD)
    have mD : m ≠ D := fun e => st.ofM (by rw [e]; exact hD)
    refine lc_range (fun i H' => ∃ ks : List Int, H' D = some (.lst (ks.map V.int)) ∧ ks.Pairwise (· < ·) ∧ (∀ x ∈ ks, 0 ≤ x ∧ x < (i : Int)) ∧ MM m H H' ∧ Mst (n + i) m c ns H') ?_ ?_ ?_
    · exact ⟨[], upd_same, .nil, (fun _ z => nomatch z), fun b o _ e => by rw [upd_ne (ne_of_none e hD)]; exact e, st.put mD cD⟩
    · rintro i H1 hi ⟨ks, hL, hup, hlt, mm, st1⟩
      refine ⟨rfl, ?_⟩
      refine ⟨_, rfl, _, rfl, n + i, m, c, ns, 4, rfl, by decide, by decide, by omega, st1, fun r H2 r0 r1 mm2 st2 => ?_⟩
      have hL2 := mm2 _ _ (fun e => mD e.symm) hL
      obtain ⟨bb, hbb⟩ : ∃ bb, decide (V.int r = V.int 0) = bb := ⟨_, rfl⟩
      refine ⟨rfl, bb, congrArg V.bl hbb, ?_⟩
      clear hbb
      have hcase : bb = true ∨ bb = false := by cases bb <;> simp
      rcases hcase with rfl | rfl
      · refine iteT ⟨_, rfl, _, hL2, ?_, ks ++ [(i : Int)], ?_, ?_, ?_, ?_, ?_⟩
        · have := ascI_len hup hlt
          rw [List.length_map]
          refine Nat.lt_of_le_of_lt this (Nat.lt_trans hi (by decide))
        · rw [List.map_append, List.map_singleton, upd_same]
          simp
        · refine List.pairwise_append.mpr ⟨hup, List.pairwise_singleton _ _, fun x hx y hy => ?_⟩
          rw [List.mem_singleton.mp hy]
          exact (hlt x hx).2
        · intro x hx
          rcases List.mem_append.mp hx with hx | hx
          · have := hlt x hx
            omega
          · rw [List.mem_singleton.mp hx]
            omega
        · exact fun b o nb e => by rw [upd_ne (ne_of_none e hD)]; exact mm2 _ _ nb (mm _ _ nb e)
        · exact st2.put mD cD
      · exact iteF ⟨ks, hL2, hup, fun x hx => by have := hlt x hx; omega, mm.trans mm2, st2⟩
    · rintro H1 ⟨ks, hL, hup, hlt, mm, st1⟩
      have dk : Da (cut m H1) (.ref D) (.list (ks.map .int)) := .lst (cut_get hL (fun e => mD e.symm)) (da_ints ks)
      have ok : EnvOk (cut m H1) [some (.ref m), some (.int 3), some (.int 4), some (.ref D), none] [none, some (.int 3), some (.int 4), some (.list (ks.map .int)), none] :=
        ek_no _ (ek_da (.int 3) (ek_da (.int 4) (ek_da dk (ek_no _ ek_nil))))
      refine tt_do ok (b := !decide (ks = [])) (by simp [ne_ints]) fun H2 s2 => ?_
      have st2 := st1.keep s2
      have mm2 : MM m H H2 := mm.trans (.of s2)
      by_cases hk : ks = []
      · rw [hk, decide_eq_true rfl]
        refine ⟨_, rfl, _, rfl, n + 3, m, c, ns, 3, rfl, by decide, by decide, by omega, st2, fun r H3 r0 r1 mm3 st3 => ?_⟩
        refine ⟨(by show 1 ≤ sizeLine; decide), fun t ht => ?_⟩
        have ct : c ≠ t := fun e => st3.ofc (by rw [e]; exact ht)
        have mt : m ≠ t := fun e => st3.ofM (by rw [e]; exact ht)
        refine q _ [r] _ ⟨by simp, List.pairwise_singleton _ _, fun x hx => by rw [List.mem_singleton.mp hx]; exact ⟨r0, r1⟩⟩ (.tup (cut_get upd_same (fun e => mt e.symm)) (.cons (.int r) .nil)) ?_ (st3.put mt ct)
        exact fun b o nb e => by
          have e3 := mm3 _ _ nb (mm2 _ _ nb e)
          rw [upd_ne (ne_of_none e3 ht)]
          exact e3
      · rw [decide_eq_false hk]
        have ok2 : EnvOk (cut m H2) [some (.ref m), some (.int 3), some (.int 4), some (.ref D), none] [none, some (.int 3), some (.int 4), some (.list (ks.map .int)), none] := ok.mono (cut_mm (.of s2))
        refine td_run ok2 (d := eKs ks) (by simp [eKs]) st2.at fun v H3 s3 r3 => ?_
        exact q v ks H3 ⟨hk, hup, fun x hx => by have := hlt x hx; exact this⟩ r3 (mm2.trans (.of s3)) ((st2.keep s3).mono (by omega))
end
end Sb
end
section
set_option Elab.async false
set_option linter.all false
set_option maxRecDepth 100000
set_option maxHeartbeats 4000000
/-! Hn5: way. -/
namespace Sb
open PySem PySem.Spec L2
open PyProof.Rows hiding St

/-- without the machine and a list that grows -/
def cut2 (D M : Addr) (H : Hp) : Hp := cut D (cut M H)
theorem cut2_upd (D M : Addr) (H : Hp) (o : HO) : cut2 D M (upd H D o) = cut2 D M H := by
  funext b
  unfold cut2 cut
  by_cases h : b = D
  · rw [if_pos h, if_pos h]
  · rw [if_neg h, if_neg h]
    by_cases h2 : b = M
    · rw [if_pos h2, if_pos h2]
    · rw [if_neg h2, if_neg h2, upd_ne h]
theorem cut2_mm {D M : Addr} {H H' : Hp} (m : MM M H H') : Same (cut2 D M H) (cut2 D M H') := fun b o h => by
  unfold cut2 at h ⊢
  have hb : b ≠ D := fun q => by
    rw [q] at h
    have h' : (if D = D then none else cut M H D) = some o := h
    rw [if_pos rfl] at h'
    cases h'
  have h1 : (if b = D then none else cut M H b) = some o := h
  rw [if_neg hb] at h1
  show (if b = D then none else cut M H' b) = some o
  rw [if_neg hb]
  exact cut_mm m b o h1
theorem cut2_cut (D M : Addr) (H : Hp) : Same (cut2 D M H) (cut M H) := cut_same D (cut M H)
theorem da_intsI {G : Hp} : ∀ {vs : List V} {ns : List Int}, DaAll G vs (ns.map .int) → vs = ns.map V.int
  | _, [], .nil => rfl
  | _, _ :: _, .cons r rr => by rw [r.int', da_intsI rr]; rfl
/-- a tuple of ints leans on nothing else -/
theorem da_ks {G G' : Hp} {v : V} {ks : List Int} (h : Da G v (eKs ks)) (g : ∀ t vs, G t = some (.tup vs) → G' t = some (.tup vs)) : Da G' v (eKs ks) := by
  cases h with
  | tup ha r => exact .tup (g _ _ ha) (by rw [da_intsI r]; exact da_ints ks)
theorem cut_tup {D M : Addr} {H : Hp} {xs : List V} (hD : H D = some (.lst xs)) (t : Addr) (vs : List V) (h : cut M H t = some (.tup vs)) : cut2 D M H t = some (.tup vs) := by
  have n : t ≠ D := fun q => by
    have := cut_same M H t _ h
    rw [q, hD] at this
    cases this
  exact (if_neg n).trans h
def spWay : Sp := fun vs H Q _ => ∃ (n : Nat) (M c : Addr) (ns : List Int), vs = [.ref M, .int 4, .int 4] ∧ n ≤ 800000 ∧ Mst n M c ns H ∧
  ∀ v (w : Way) H', w.Ok → DaM M H' v (eW w) → MM M H H' → Mst (n + 30) M c ns H' → Q v H'
theorem sc_law_way : FnScope ["_law_m", "_law_most", "_law_window", "_law_steps", "_law_wide", "_law_how", "_law_k"] ["_law_m", "_law_most", "_law_window"] (defScope sT_law_way) := ⟨rfl, rfl, rfl, by decide +kernel, rfl, by decide +kernel, by decide +kernel⟩
theorem v_any (p : Ps) : decide (V.str p.s = V.str "any") = decide (p = .any) := by cases p <;> decide +kernel
theorem ps_of {x : V} (h : x ∈ [V.str "loose", V.str "among", V.str "strict", V.str "any"]) : ∃ p : Ps, x = .str p.s := by
  rcases List.mem_cons.mp h with rfl | h
  · exact ⟨.loose, rfl⟩
  rcases List.mem_cons.mp h with rfl | h
  · exact ⟨.among, rfl⟩
  rcases List.mem_cons.mp h with rfl | h
  · exact ⟨.strict, rfl⟩
  · exact ⟨.any, by rw [List.mem_singleton.mp h]; rfl⟩
theorem sp_of {x : V} (h : x ∈ [V.str "whole", V.str "each"]) : ∃ b : Bool, x = .str (spS b) := by
  rcases List.mem_cons.mp h with rfl | h
  · exact ⟨false, rfl⟩
  · exact ⟨true, by rw [List.mem_singleton.mp h]; rfl⟩
theorem be_of {x : V} (h : x ∈ [V.str "all", V.str "all", V.str "first"]) : ∃ b : Bool, x = .str (beS b) := by
  rcases List.mem_cons.mp h with rfl | h
  · exact ⟨false, rfl⟩
  rcases List.mem_cons.mp h with rfl | h
  · exact ⟨false, rfl⟩
  · exact ⟨true, by rw [List.mem_singleton.mp h]; rfl⟩
theorem MM.new {M D : Addr} {H H' : Hp} {o : HO} (m : MM M H H') (hD : H' D = none) : MM M H (L2.upd H' D o) := fun b x n e => by
  have e2 := m b x n e
  rw [upd_ne (ne_of_none e2 hD)]
  exact e2
theorem Mst.new {n : Nat} {M c D : Addr} {ns : List Int} {H : Hp} {o : HO} (h : Mst n M c ns H) (hD : H D = none) : Mst n M c ns (upd H D o) :=
  h.put (fun e => h.ofM (by rw [e]; exact hD)) (fun e => h.ofc (by rw [e]; exact hD))
theorem DaM.new {M D : Addr} {H : Hp} {o : HO} {v : V} {d : PyData} (h : DaM M H v d) (hD : H D = none) : DaM M (upd H D o) v d := h.keep (MM.new (.refl M H) hD)
section
variable {P : Program} {w : World} {K : PySem.W.Frag} {mg : Str → Option Value} {base : Heap}
theorem ok_law_way (M : Mg mg) (F : Df K mg "_law_way" sT_law_way ["_law_m", "_law_most", "_law_window"]) (D1 : Dk P w K mg base 1 "_law_draw" ["_law_m", "_law_many"] spDraw)
    (D2 : Dk P w K mg base 2 "_law_of" ["_law_m", "_law_some_here"] spOf) (D3 : Dk P w K mg base 2 "_law_some" ["_law_m", "_law_most", "_law_share"] spSome) : Dk P w K mg base 3 "_law_way" ["_law_m", "_law_most", "_law_window"] spWay := by
  obtain ⟨f, fd, h1, h2, h3⟩ := F.ex
  refine ⟨f, fd, ?_, h2, h1.kp, h3⟩
  refine h1.ok sc_law_way (fun vs H Q E h => ?_) (fun cdv A outer s H vs Q E hr h => ?_)
  · obtain ⟨n, M, c, ns, rfl, _⟩ := h
    rfl
  · obtain ⟨n, m, c, ns, rfl, hn, st, q⟩ := h
    refine ⟨_, pss_cons (ps_set (i := 3) sc_law_way.nd rfl (Or.inl rfl) (pe_callTy call_tuple_of (by rfl) M.tuple boot_tuple (pa_cons (pe_lc rfl sc_law_way.nd
          (pi_range1 (by rfl) M.range (pa_cons (pe_op op_add pe_int (pe_dk D1 (hr.mono (by decide)) (pa_cons (pv 0) (pa_cons (pv 1) pa_nil)))) pa_nil)) (own := [("_law_k", 6)])
          (blkOk_by (N := ["_law_m", "_law_most", "_law_window", "_law_steps", "_law_wide", "_law_how", "_law_k"]) (sc := defScope sT_law_way) (by decide +kernel)) (fun _ _ _ _ _ => pg_name (i := 6) sc_law_way.nd rfl (Or.inl rfl))
          (fun _ _ _ _ _ => pts_nil) (fun _ _ _ _ _ => pe_dk D3 (hr.mono (by decide)) (pa_cons (pv 0) (pa_cons pe_int (pa_cons pe_int pa_nil))))) pa_nil)))
      (pss_cons (ps_set (i := 4) sc_law_way.nd rfl (Or.inl rfl) (pe_dk D1 (hr.mono (by decide)) (pa_cons (pv 0) (pa_cons (pe_op op_add (pv 2) pe_int) pa_nil))))
      (pss_cons (ps_set (i := 5) sc_law_way.nd rfl (Or.inl rfl) (pe_dk D2 (hr.mono (by decide)) (pa_cons (pv 0) (pa_cons (pe_lst (pa_cons pe_str (pa_cons pe_str (pa_cons pe_str (pa_cons pe_str pa_nil))))) pa_nil))))
      (pss_cons (ps_if (pt_cmpR op_eq (pv 5) pe_str (nomark _)) (pss_one (ps_ret (pe_tup (pa_cons (pv 3) (pa_cons (pv 5) (pa_cons pe_str (pa_cons (pv 4) (pa_cons pe_str pa_nil)))))))) pss_nil)
      (pss_one (ps_ret (pe_tup (pa_cons (pv 3) (pa_cons (pv 5) (pa_cons (pe_dk D2 (hr.mono (by decide)) (pa_cons (pv 0) (pa_cons (pe_lst (pa_cons pe_str (pa_cons pe_str pa_nil))) pa_nil)))
        (pa_cons (pv 4) (pa_cons (pe_dk D2 (hr.mono (by decide)) (pa_cons (pv 0) (pa_cons (pe_lst (pa_cons pe_str (pa_cons pe_str (pa_cons pe_str pa_nil)))) pa_nil))) pa_nil))))))))))), ?_⟩
    refine ⟨_, rfl, _, rfl, n, m, c, ns, 4, rfl, by decide, by decide, by omega, st, fun r H1 r0 r1 mm1 st1 => ?_⟩
    refine ⟨_, _, rfl, rfl, _, rfl, by omega, by omega, fun D hD => ?_⟩
    have cD : c ≠ D := fun e => st1.ofc (by rw [e]; exact hD)
    have mD : m ≠ D := fun e => st1.ofM (by rw [e]; exact hD)
    refine lc_range (fun i H' => ∃ (xs : List V) (kss : List (List Int)), H' D = some (.lst xs) ∧ DaAll (cut2 D m H') xs (kss.map eKs) ∧ kss.length = i ∧ (∀ k ∈ kss, KsOk 3 k) ∧ MM m H H' ∧ Mst (n + 1 + 4 * i) m c ns H') ?_ ?_ ?_
    · exact ⟨[], [], upd_same, .nil, rfl, (fun _ z => nomatch z), mm1.new hD, st1.put mD cD⟩
    · rintro i H2 hi ⟨xs, kss, hL, hda, hlen, hks, mm, st2⟩
      refine ⟨rfl, ?_⟩
      unfold tYes
      refine iteT ⟨_, rfl, n + 1 + 4 * i, m, c, ns, rfl, by omega, st2, fun v ks H3 ko dv mm3 st3 => ?_⟩
      have hL3 := mm3 _ _ (fun e => mD e.symm) hL
      have hxl := hda.length
      rw [List.length_map] at hxl
      refine ⟨_, hL3, ?_, xs ++ [v], kss ++ [ks], upd_same, ?_, ?_, ?_, ?_, ?_⟩
      · refine Nat.lt_of_le_of_lt (m := 4) (by omega) (by decide)
      · rw [cut2_upd, List.map_append]
        exact (hda.mono (cut2_mm mm3)).append (.one (da_ks dv fun t us ht => cut_tup hL3 t us ht))
      · rw [List.length_append, hlen]
        rfl
      · intro k hk
        rcases List.mem_append.mp hk with hk | hk
        · exact hks k hk
        · rw [List.mem_singleton.mp hk]
          exact ko
      · exact fun b o nb e => by
          have e1 := mm _ _ nb e
          have e2 := mm3 _ _ nb e1
          have : b ≠ D := fun z => by
            have e0 := mm1 _ _ nb e
            rw [z, hD] at e0
            cases e0
          rw [upd_ne this]
          exact e2
      · exact (st3.put mD cD).mono (by omega)
    · rintro H2 ⟨xs, kss, hL, hda, hlen, hks, mm, st2⟩
      refine ⟨D, xs, rfl, .inl ⟨SqL.of hL, fun p hp => ?_⟩⟩
      have hxl := hda.length
      rw [List.length_map] at hxl
      have mD' : D ≠ m := fun e => mD e.symm
      have pD : p ≠ D := fun e => by
        rw [e, hL] at hp
        cases hp
      have dst : DaM m (upd H2 p (.tup xs)) (.ref p) (.tuple (kss.map eKs)) := by
        have pm : p ≠ m := fun e => st2.ofM (by rw [← e]; exact hp)
        refine .tup (cut_get upd_same pm) ((hda.mono (cut2_cut D m H2)).mono (cut_mm (MM.new (.refl m H2) hp)))
      have st3 := st2.new (o := .tup xs) hp
      have mm3 : MM m H (upd H2 p (.tup xs)) := mm.new hp
      generalize upd H2 p (.tup xs) = H3 at *
      -- wide
      refine ⟨_, rfl, _, rfl, _, _, rfl, rfl, n + 1 + 4 * (1 + r).toNat, m, c, ns, 5, rfl, by decide, by decide, by omega, st3, fun wi H4 w0 w1 mm4 st4 => ?_⟩
      have dst4 := dst.keep mm4
      have mm04 := mm3.trans mm4
      -- how
      refine ⟨_, rfl, (by show 4 ≤ sizeLine; decide), fun l hl => ?_⟩
      have dst5 := dst4.new (o := .lst [.str "loose", .str "among", .str "strict", .str "any"]) hl
      have st5 := st4.new (o := .lst [.str "loose", .str "among", .str "strict", .str "any"]) hl
      have mm05 := mm04.new (o := .lst [.str "loose", .str "among", .str "strict", .str "any"]) hl
      refine ⟨_, m, c, l, ns, _, rfl, upd_same, by simp, (by show 4 < 1000; decide), by omega, st5, fun x H6 hx mm6 st6 => ?_⟩
      obtain ⟨ps, rfl⟩ := ps_of hx
      have dst6 := dst5.keep mm6
      have mm06 := mm05.trans mm6
      have hst : ∀ ea fi, (ps = .any → ea = false ∧ fi = false) → Way.Ok ⟨kss, ps, ea, wi, fi⟩ := fun ea fi han =>
        ⟨by show 1 ≤ kss.length; omega, by show kss.length ≤ 4; omega, fun k hk => ⟨(hks k hk).ne, (hks k hk).up, fun x hx => by have := (hks k hk).lt x hx; omega, by have := ascI_len (b := 3) (hks k hk).up (hks k hk).lt; omega⟩, w0, by show wi ≤ 8; omega, han⟩
      by_cases hp1 : ps = .any
      · refine ⟨_, rfl, rfl, true, congrArg V.bl ((v_any ps).trans (decide_eq_true hp1)), ?_⟩
        refine iteT ⟨_, rfl, _, rfl, _, rfl, (by show 5 ≤ sizeLine; decide), fun t ht => ?_⟩
        have tm : t ≠ m := fun e => st6.ofM (by rw [← e]; exact ht)
        refine q _ ⟨kss, ps, false, wi, false⟩ _ (hst _ _ fun _ => ⟨rfl, rfl⟩) ?_ (mm06.new ht) ((st6.new ht).mono (by omega))
        exact .tup (cut_get upd_same tm) (.cons (dst6.new ht) (.cons (.str _) (.cons (.str _) (.cons (.int wi) (.cons (.str _) .nil)))))
      · refine ⟨_, rfl, rfl, false, congrArg V.bl ((v_any ps).trans (decide_eq_false hp1)), ?_⟩
        refine iteF ⟨_, rfl, _, rfl, _, rfl, (by show 2 ≤ sizeLine; decide), fun l2 hl2 => ?_⟩
        have dst7 := dst6.new (o := .lst [.str "whole", .str "each"]) hl2
        have st7 := st6.new (o := .lst [.str "whole", .str "each"]) hl2
        have mm07 := mm06.new (o := .lst [.str "whole", .str "each"]) hl2
        refine ⟨_, m, c, l2, ns, _, rfl, upd_same, by simp, (by show 2 < 1000; decide), by omega, st7, fun x2 H8 hx2 mm8 st8 => ?_⟩
        obtain ⟨ea, rfl⟩ := sp_of hx2
        have dst8 := dst7.keep mm8
        have mm08 := mm07.trans mm8
        refine ⟨_, rfl, _, rfl, (by show 3 ≤ sizeLine; decide), fun l3 hl3 => ?_⟩
        have dst9 := dst8.new (o := .lst [.str "all", .str "all", .str "first"]) hl3
        have st9 := st8.new (o := .lst [.str "all", .str "all", .str "first"]) hl3
        have mm09 := mm08.new (o := .lst [.str "all", .str "all", .str "first"]) hl3
        refine ⟨_, m, c, l3, ns, _, rfl, upd_same, by simp, (by show 3 < 1000; decide), by omega, st9, fun x3 Ha hx3 mma sta => ?_⟩
        obtain ⟨fi, rfl⟩ := be_of hx3
        have dsta := dst9.keep mma
        have mm0a := mm09.trans mma
        refine ⟨(by show 5 ≤ sizeLine; decide), fun t ht => ?_⟩
        have tm : t ≠ m := fun e => sta.ofM (by rw [← e]; exact ht)
        refine q _ ⟨kss, ps, ea, wi, fi⟩ _ (hst _ _ fun z => absurd z hp1) ?_ (mm0a.new ht) ((sta.new ht).mono (by omega))
        exact .tup (cut_get upd_same tm) (.cons (dsta.new ht) (.cons (.str _) (.cons (.str _) (.cons (.int wi) (.cons (.str _) .nil)))))
end
end Sb
end
section
set_option Elab.async false
set_option linter.all false
set_option maxRecDepth 100000
set_option maxHeartbeats 4000000
/-! Hn6: log. -/
namespace Sb
open PySem PySem.Spec L2
open PyProof.Rows hiding St

def spLog : Sp := fun vs H Q _ => ∃ (n : Nat) (M c : Addr) (ns : List Int) (wv : V) (w : Way), vs = [.ref M, wv, .int 8] ∧ n ≤ 800000 ∧ Mst n M c ns H ∧ DaM M H wv (eW w) ∧ w.Ok ∧
  ∀ v (l : Log) H', LogOk l → l.length ≤ 8 → DaM M H' v (eL l) → MM M H H' → Mst (n + 30) M c ns H' → Q v H'
theorem sc_law_log : FnScope ["_law_m", "_law_way_here", "_law_most", "_law_found", "_law_k", "_law_gap"] ["_law_m", "_law_way_here", "_law_most"] (defScope sT_law_log) := ⟨rfl, rfl, rfl, by decide +kernel, rfl, by decide +kernel, by decide +kernel⟩
theorem way_ix {M : Addr} {H : Hp} {wv : V} {w : Way} (h : DaM M H wv (eW w)) : ∃ t xs, wv = .ref t ∧ H t = some (.tup xs) ∧ atI xs 3 = some (.int w.wi) := by
  unfold DaM eW at h
  cases h with
  | tup ha r =>
    refine ⟨_, _, rfl, cut_same M H _ _ ha, ?_⟩
    have hg : ([PyData.tuple (w.st.map eKs), .str w.ps.s, .str (spS w.ea), .int w.wi, .str (beS w.fi)] : List PyData)[3]? = some (.int w.wi) := rfl
    obtain ⟨v, h1, h2⟩ := r.get hg
    rw [atI_3, h1, h2.int']
theorem gap_of {x : V} {r wi : Int} (h : x ∈ [V.int 0, V.int 0, V.int 1, V.int 1, V.int r, V.int (wi + 1), V.int (10 ^ (30 : Int).toNat)]) (r0 : 0 ≤ r) (r1 : r < 100) (w0 : 0 ≤ wi) (w1 : wi ≤ 8) : ∃ g : Int, x = .int g ∧ 0 ≤ g ∧ g ≤ 10 ^ 30 := by
  have e30 : (10 : Int) ^ (30 : Int).toNat = 10 ^ 30 := rfl
  rcases List.mem_cons.mp h with rfl | h
  · exact ⟨0, rfl, by omega, by omega⟩
  rcases List.mem_cons.mp h with rfl | h
  · exact ⟨0, rfl, by omega, by omega⟩
  rcases List.mem_cons.mp h with rfl | h
  · exact ⟨1, rfl, by omega, by omega⟩
  rcases List.mem_cons.mp h with rfl | h
  · exact ⟨1, rfl, by omega, by omega⟩
  rcases List.mem_cons.mp h with rfl | h
  · exact ⟨r, rfl, by omega, by omega⟩
  rcases List.mem_cons.mp h with rfl | h
  · exact ⟨wi + 1, rfl, by omega, by omega⟩
  · rw [List.mem_singleton.mp h]
    exact ⟨10 ^ 30, rfl, by omega, by omega⟩
section
variable {P : Program} {w : World} {K : PySem.W.Frag} {mg : Str → Option Value} {base : Heap}
theorem ok_law_log (M : Mg mg) (F : Df K mg "_law_log" sT_law_log ["_law_m", "_law_way_here", "_law_most"]) (D1 : Dk P w K mg base 1 "_law_draw" ["_law_m", "_law_many"] spDraw)
    (D2 : Dk P w K mg base 2 "_law_of" ["_law_m", "_law_some_here"] spOf) : Dk P w K mg base 3 "_law_log" ["_law_m", "_law_way_here", "_law_most"] spLog := by
  obtain ⟨f, fd, h1, h2, h3⟩ := F.ex
  refine ⟨f, fd, ?_, h2, h1.kp, h3⟩
  refine h1.ok sc_law_log (fun vs H Q E h => ?_) (fun cdv A outer s H vs Q E hr h => ?_)
  · obtain ⟨n, M, c, ns, wv, w, rfl, _⟩ := h
    rfl
  · obtain ⟨n, m, c, ns, wv, w, rfl, hn, st, dw, ok, q⟩ := h
    have w8 := ok.w8
    have w0 := ok.w0
    refine ⟨_, pss_cons (ps_set (i := 3) sc_law_log.nd rfl (Or.inl rfl) (pe_lst pa_nil))
      (pss_cons (ps_for PassesOwn.never rfl (pi_range1 (by rfl) M.range (pa_cons (pe_dk D1 (hr.mono (by decide)) (pa_cons (pv 0) (pa_cons (pe_op op_add (pv 2) pe_int) pa_nil))) pa_nil)) (pg_name (i := 4) sc_law_log.nd rfl (Or.inl rfl))
        (pss_cons (ps_set (i := 5) sc_law_log.nd rfl (Or.inl rfl) (pe_dk D2 (hr.mono (by decide)) (pa_cons (pv 0) (pa_cons (pe_lst (pa_cons pe_int (pa_cons pe_int (pa_cons pe_int (pa_cons pe_int
            (pa_cons (pe_dk D1 (hr.mono (by decide)) (pa_cons (pv 0) (pa_cons (pe_op op_add (pe_ix ix_tup (pv 1) pe_int (fun _ _ => rfl)) pe_int) pa_nil))) (pa_cons (pe_op op_add (pe_ix ix_tup (pv 1) pe_int (fun _ _ => rfl)) pe_int) (pa_cons (pe_op op_pow pe_int pe_int) pa_nil)))))))) pa_nil))))
        (pss_one (ps_expr (pe_bm PySem.F.plainAttrs_list PySem.F.slot_list_append PySem.F.type_list_append mt_append (pv 3) (pa_cons (pe_tup (pa_cons (pv 5) (pa_cons (pe_dk D1 (hr.mono (by decide)) (pa_cons (pv 0) (pa_cons pe_int pa_nil))) pa_nil))) pa_nil))))))
      (pss_one (ps_ret (pe_callTy call_tuple_of (by rfl) M.tuple boot_tuple (pa_cons (pv 3) pa_nil))))), ?_⟩
    refine ⟨Nat.zero_le _, fun D hD => ?_⟩
    have cD : c ≠ D := fun e => st.ofc (by rw [e]; exact hD)
    have mD : m ≠ D := fun e => st.ofM (by rw [e]; exact hD)
    have hb : ∀ {b : Addr} {o : HO}, H b = some o → b ≠ D := fun {b o} e z => by
      rw [z, hD] at e
      cases e
    have stD := st.new (o := .lst []) hD
    refine ⟨_, rfl, _, rfl, _, _, rfl, rfl, n, m, c, ns, 9, rfl, by decide, by decide, by omega, stD, fun r H1 r0 r1 mm1 st1 => ?_⟩
    refine ⟨_, rfl, by omega, by omega, ?_⟩
    refine for_range (fun i σ' H' => ∃ (l : Log) (xs : List V) (a b : Option V), σ' = [some (.ref m), some wv, some (.int 8), some (.ref D), a, b] ∧ H' D = some (.lst xs) ∧ DaAll (cut2 D m H') xs (l.map eEv) ∧ l.length = i ∧
      (∀ e ∈ l, (0 ≤ e.1 ∧ e.1 ≤ 10 ^ 30) ∧ 0 ≤ e.2 ∧ e.2 ≤ 4) ∧ MM m H H' ∧ Mst (n + 1 + 3 * i) m c ns H') ?_ ?_ ?_
    · refine ⟨[], [], none, none, rfl, mm1 _ _ (fun e => mD e.symm) upd_same, .nil, rfl, (fun _ z => nomatch z), fun b o nb e => mm1 _ _ nb ?_, st1⟩
      rw [upd_ne (hb e)]
      exact e
    · rintro i σ H2 hi ⟨l, xs, a, b, rfl, hL, hda, hlen, hev, mm, st2⟩
      have dw2 := dw.keep mm
      obtain ⟨t, us, hwt, ht, hat⟩ := way_ix dw2
      have tm : t ≠ m := fun e => by
        obtain ⟨_, _, _, hM, _⟩ := st2
        rw [e, hM] at ht
        cases ht
      refine ⟨_, rfl, _, rfl, _, rfl, t, us, 3, _, hwt, rfl, SqT.of ht, hat, _, _, rfl, rfl, n + 1 + 3 * i, m, c, ns, w.wi + 2, rfl, by omega, by omega, by omega, st2, fun g1 H3 g10 g11 mm3 st3 => ?_⟩
      have ht3 := mm3 _ _ tm ht
      refine ⟨_, rfl, t, us, 3, _, hwt, rfl, SqT.of ht3, hat, _, _, rfl, rfl, _, _, rfl, rfl, ⟨by decide, by decide, by decide⟩, (by show 7 ≤ sizeLine; decide), fun p hp => ?_⟩
      have mm03 := mm.trans mm3
      have hL3 := mm3 _ _ (fun e => mD e.symm) hL
      have st4 := st3.new (o := .lst [.int 0, .int 0, .int 1, .int 1, .int g1, .int (w.wi + 1), .int (10 ^ (30 : Int).toNat)]) hp
      have pD : D ≠ p := fun e => by
        rw [← e, hL3] at hp
        cases hp
      refine ⟨_, m, c, p, ns, _, rfl, upd_same, by simp, (by show 7 < 1000; decide), by omega, st4, fun x H5 hx mm5 st5 => ?_⟩
      obtain ⟨g, rfl, hg0, hg1⟩ := gap_of hx g10 (by omega) w0 w8
      have mm5' : MM m H3 H5 := fun b o nb e => mm5 b o nb (by rw [upd_ne (ne_of_none e hp)]; exact e)
      have hL5 := mm5' _ _ (fun e => mD e.symm) hL3
      refine ⟨_, rfl, .inl ⟨rfl, xs, SqL.of hL5⟩, _, rfl, _, rfl, n + 1 + 3 * i + 1 + 1, m, c, ns, 4, rfl, by decide, by decide, by omega, st5, fun kd H6 k0 k1 mm6 st6 => ?_⟩
      have hL6 := mm6 _ _ (fun e => mD e.symm) hL5
      refine ⟨(by show 2 ≤ sizeLine; decide), fun t2 ht2 => ?_⟩
      have t2D : D ≠ t2 := fun e => by
        rw [← e, hL6] at ht2
        cases ht2
      have t2m : t2 ≠ m := fun e => st6.ofM (by rw [← e]; exact ht2)
      have hL7 : upd H6 t2 (.tup [.int g, .int kd]) D = some (.lst xs) := by rw [upd_ne t2D]; exact hL6
      have mm06 : MM m H2 H6 := (mm3.trans mm5').trans mm6
      have hxl := hda.length
      rw [List.length_map] at hxl
      refine ⟨D, xs, _, rfl, rfl, hL7, ?_, l ++ [(g, kd)], xs ++ [.ref t2], _, _, rfl, upd_same, ?_, ?_, ?_, ?_, ?_⟩
      · refine Nat.lt_of_le_of_lt (m := 8) (by omega) (by decide)
      · rw [cut2_upd, List.map_append]
        have s1 : Same (cut2 D m H2) (cut2 D m (upd H6 t2 (.tup [.int g, .int kd]))) := cut2_mm (mm06.new ht2)
        have hn2 : cut2 D m (upd H6 t2 (.tup [.int g, .int kd])) t2 = some (.tup [.int g, .int kd]) := by
          show (if t2 = D then none else cut m _ t2) = _
          rw [if_neg (fun e => t2D e.symm)]
          exact cut_get upd_same t2m
        exact (hda.mono s1).append (.one (.tup hn2 (.cons (.int g) (.cons (.int kd) .nil))))
      · rw [List.length_append, hlen]
        rfl
      · intro e he
        rcases List.mem_append.mp he with he | he
        · exact hev e he
        · rw [List.mem_singleton.mp he]
          exact ⟨⟨hg0, hg1⟩, k0, by show kd ≤ 4; omega⟩
      · exact fun b o nb e => by
          have e6 : H6 b = some o := mm06 b o nb (mm b o nb e)
          rw [upd_ne (hb e), upd_ne (ne_of_none e6 ht2)]
          exact e6
      · exact ((st6.new ht2).put mD cD).mono (by omega)
    · rintro σ H2 ⟨l, xs, a, b, rfl, hL, hda, hlen, hev, mm, st2⟩
      refine ⟨_, rfl, D, xs, rfl, .inl ⟨SqL.of hL, fun p hp => ?_⟩⟩
      have pm : p ≠ m := fun e => st2.ofM (by rw [← e]; exact hp)
      refine q _ l _ ⟨hev, by omega⟩ (by omega) ?_ (mm.new hp) ((st2.new hp).mono (by omega))
      exact .tup (cut_get upd_same pm) ((hda.mono (cut2_cut D m H2)).mono (cut_mm (MM.new (.refl m H2) hp)))
end
end Sb
end
section
set_option Elab.async false
set_option linter.all false
set_option maxRecDepth 100000
set_option maxHeartbeats 4000000
/-! Hn7: begun. -/
namespace Sb
open PySem PySem.Spec L2
open PyProof.Rows hiding St

def spBegun (K : PySem.W.Frag) : Sp := fun vs H Q _ => ∃ (a : Addr) (ns : List Int) (k : Int), vs = [.ref a, .int k] ∧ SqL K H a (ns.map V.int) ∧ ns.length ≤ 63 ∧
  ∀ M c cs H', H M = none → Same H H' → Mst 0 M c cs H' → Q (.ref M) H'
theorem sc_law_begun : FnScope ["_law_script", "_law_k", "_law_cells", "_law_cell", "_law_great", "_law_seed"] ["_law_script", "_law_k"] (defScope sT_law_begun) := ⟨rfl, rfl, rfl, by decide +kernel, rfl, by decide +kernel, by decide +kernel⟩
theorem cutV_ints (ns : List Int) (lo hi : Option Int) : cutV (ns.map V.int) lo hi = (cutL ns lo hi).map V.int := by
  unfold cutV cutL
  rw [List.length_map, List.map_take, List.map_drop]
theorem cutL_len {α : Type} (ns : List α) (lo hi : Option Int) : (cutL ns lo hi).length ≤ ns.length := by
  unfold cutL
  rw [List.length_take, List.length_drop]
  omega
theorem put_new {kvs : List (Key × V)} {k : Key} {v : V} (h : valV kvs k = none) : putK kvs k v = kvs ++ [(k, v)] := by
  unfold putK
  rw [if_neg]
  rw [valV_any, h]
  exact Bool.false_ne_true
theorem merge_mk (a s : Int) (c : Addr) (p : Int) : mergeK [] (mk a s c p) = mk a s c p := by
  show putK (putK (putK (putK [] (kS "left") (.int a)) (kS "seed") (.int s)) (kS "cells") (.ref c)) (kS "spot") (.int p) = _
  have e1 : putK [] (kS "left") (V.int a) = [(kS "left", V.int a)] := put_new valV_nil
  have e2 : putK [(kS "left", V.int a)] (kS "seed") (V.int s) = [(kS "left", V.int a), (kS "seed", V.int s)] := put_new ((valV_neg nLS).trans valV_nil)
  have e3 : putK [(kS "left", V.int a), (kS "seed", V.int s)] (kS "cells") (V.ref c) = [(kS "left", V.int a), (kS "seed", V.int s), (kS "cells", V.ref c)] := put_new ((valV_neg nLC).trans ((valV_neg nSC).trans valV_nil))
  have e4 : putK [(kS "left", V.int a), (kS "seed", V.int s), (kS "cells", V.ref c)] (kS "spot") (V.int p) = [(kS "left", V.int a), (kS "seed", V.int s), (kS "cells", V.ref c), (kS "spot", V.int p)] := put_new ((valV_neg nLP).trans ((valV_neg nSP).trans ((valV_neg nCP).trans valV_nil)))
  rw [e1, e2, e3, e4]
  rfl
theorem tt_all {f : En → Option Bool} {σ : St} {H : Hp} {Q : Bool → Hp → Prop} {env : En} {b : Bool} (ok : EnvOk H σ env) (h : f env = some b) (q : ∀ H', Same H H' → Q b H') : tT f σ H Q :=
  ⟨H, env, b, .refl H, ok, h, fun _ H' m => q H' m.h⟩
section
variable {P : Program} {w : World} {K : PySem.W.Frag} {mg : Str → Option Value} {base : Heap}
theorem ok_law_begun (M : Mg mg) (F : Df K mg "_law_begun" sT_law_begun ["_law_script", "_law_k"]) : Dk P w K mg base 1 "_law_begun" ["_law_script", "_law_k"] (spBegun K) := by
  obtain ⟨f, fd, h1, h2, h3⟩ := F.ex
  refine ⟨f, fd, ?_, h2, h1.kp, h3⟩
  refine h1.ok sc_law_begun (fun vs H Q E h => ?_) (fun cdv A outer s H vs Q E hr h => ?_)
  · obtain ⟨a, ns, k, rfl, _⟩ := h
    rfl
  · obtain ⟨a, ns, k, rfl, hS, hlen, q⟩ := h
    refine ⟨_, pss_cons (ps_set (i := 2) sc_law_begun.nd rfl (Or.inl rfl) (pe_op op_cat (pe_slice sl_list (pv 0) (po_some (pv 1)) po_none) (pe_slice sl_list (pv 0) po_none (po_some (pv 1)))))
      (pss_cons (ps_setLc (i := 4) rfl sc_law_begun.nd rfl rfl (sw_true rfl rfl rfl (by decide +kernel)) (pi_list (pv 2)) (own := [("_law_cell", 3)])
        (blkOk_by (N := ["_law_script", "_law_k", "_law_cells", "_law_cell", "_law_great", "_law_seed"]) (sc := defScope sT_law_begun) (by decide +kernel)) (fun _ _ _ _ _ => pg_name (i := 3) sc_law_begun.nd rfl (Or.inl rfl))
        (fun _ _ _ _ _ => pts_one (pt_cmpR op_ge (pv 3) (pe_op op_pow pe_int pe_int) (nomark _))) (fun _ _ _ _ _ => pv 3))
      (pss_cons (ps_set (i := 5) sc_law_begun.nd rfl (Or.inl rfl) (pe_op op_add pe_int (pv 1)))
      (pss_cons (ps_for PassesOwn.never rfl (pi_list (pv 2)) (pg_name (i := 3) sc_law_begun.nd rfl (Or.inl rfl))
        (pss_one (ps_set (i := 5) sc_law_begun.nd rfl (Or.inl rfl) (pe_op op_mod (pe_callTy call_int1 (by rfl) M.int boot_int (pa_cons (pe_op op_add (pe_op op_mul (pv 5) pe_int) (pv 3)) pa_nil)) pe_int))))
      (pss_one (ps_ret (pe_disp (pps_cons pe_str (pe_ifExp (td_cmp (op_neD hr.units) rd_ne (pd_var 4) (pd_lst da_nil)) (pe_ix ix_list (pv 4) pe_int (fun _ _ => rfl)) pe_int)
        (pps_cons pe_str (pv 5) (pps_cons pe_str (pe_op op_cat (pv 2) (pe_lst (pa_cons (pe_op op_add (pe_op op_mul pe_int (pv 1)) pe_int) pa_nil))) (pps_cons pe_str pe_int pps_nil)))) rfl rfl (by simp) (by decide))))))), ?_⟩
    refine ⟨_, rfl, _, rfl, k, rfl, a, _, rfl, hS, fun p hp => ?_⟩
    have s1 : Same H (upd H p (.lst (cutV (ns.map V.int) (some k) none))) := same_new hp
    refine ⟨_, rfl, _, rfl, k, rfl, a, _, rfl, s1.seq hS, fun p2 hp2 => ?_⟩
    have s2 := s1.trans (same_new (o := .lst (cutV (ns.map V.int) none (some k))) hp2)
    have np : p ≠ p2 := fun e => by
      rw [← e, upd_same] at hp2
      cases hp2
    have l1 := cutL_len ns (some k) none
    have l2 := cutL_len ns none (some k)
    refine ⟨p, p2, _, _, rfl, rfl, by rw [upd_ne np]; exact upd_same, upd_same, ?_, fun C hC => ?_⟩
    · rw [cutV_ints, cutV_ints, List.length_map, List.length_map]
      exact Nat.le_trans (m := 126) (by omega) (by decide)
    rw [cutV_ints, cutV_ints] at *
    have s3 := s2.trans (same_new (o := .lst ((cutL ns (some k) none ++ cutL ns none (some k)).map V.int)) hC)
    rw [← List.map_append]
    have hcl : (cutL ns (some k) none ++ cutL ns none (some k)).length ≤ 126 := by rw [List.length_append]; omega
    have hH : (upd (upd (upd H p (.lst ((cutL ns (some k) none).map V.int))) p2 (.lst ((cutL ns none (some k)).map V.int))) C (.lst ((cutL ns (some k) none ++ cutL ns none (some k)).map V.int))) C = some (.lst ((cutL ns (some k) none ++ cutL ns none (some k)).map V.int)) := upd_same
    generalize (upd (upd (upd H p (.lst ((cutL ns (some k) none).map V.int))) p2 (.lst ((cutL ns none (some k)).map V.int))) C (.lst ((cutL ns (some k) none ++ cutL ns none (some k)).map V.int))) = H1 at *
    generalize cutL ns (some k) none ++ cutL ns none (some k) = cs at *
    refine ⟨_, rfl, C, rfl, ⟨_, SqL.of hH⟩, fun D hD => ?_⟩
    have cD : C ≠ D := fun e => by
      rw [e, hD] at hH
      cases hH
    refine lc_list (xs := cs.map V.int) (fun i H' => ∃ gs : List Int, H' D = some (.lst (gs.map V.int)) ∧ gs.length ≤ i ∧ Same H1 H') ?_ ?_ ?_ ?_
    · exact ⟨[], upd_same, Nat.le_refl _, same_new hD⟩
    · rintro i H' _ ⟨gs, _, _, s4⟩
      exact SqL.of (s4 _ _ hH)
    · rintro i x H' hx ⟨gs, hL, hgl, s4⟩
      obtain ⟨z, rfl, hi⟩ : ∃ z, x = V.int z ∧ i < cs.length := by
        rw [List.getElem?_map] at hx
        obtain ⟨z, h5, rfl⟩ := Option.map_eq_some_iff.mp hx
        exact ⟨z, rfl, (List.getElem?_eq_some_iff.mp h5).1⟩
      refine ⟨rfl, ?_⟩
      obtain ⟨bb, hbb⟩ : ∃ bb, decide ((10 : Int) ^ (18 : Int).toNat ≤ z) = bb := ⟨_, rfl⟩
      refine ⟨_, rfl, _, _, rfl, rfl, ⟨by decide, by decide, by decide⟩, _, _, rfl, rfl, bb, congrArg V.bl hbb, ?_⟩
      clear hbb
      have hcase : bb = true ∨ bb = false := by cases bb <;> simp
      rcases hcase with rfl | rfl
      · refine iteT ⟨_, rfl, _, hL, ?_, gs ++ [z], ?_, ?_, ?_⟩
        · rw [List.length_map]
          exact Nat.lt_of_le_of_lt (m := 126) (by omega) (by decide)
        · rw [List.map_append, List.map_singleton, upd_same]
        · rw [List.length_append, List.length_singleton]
          omega
        · exact fun b o e => by
            have n : b ≠ D := ne_of_none e hD
            rw [upd_ne n]
            exact s4 b o e
      · exact iteF ⟨gs, hL, by omega, s4⟩
    · rintro H2 ⟨gs, hL, hgl, s4⟩
      rw [List.length_map] at hgl
      have hH2 := s4 _ _ hH
      have s5 := s3.trans s4
      refine ⟨_, rfl, _, _, rfl, rfl, ?_⟩
      refine ⟨_, rfl, C, rfl, ⟨_, SqL.of hH2⟩, for_list (xs := cs.map V.int) (fun i σ' H' => ∃ (b : Option V) (sd : Int), σ' = [some (.ref a), some (.int k), some (.ref C), b, some (.ref D), some (.int sd)] ∧ H' = H2) ?_ ?_ ?_ ?_⟩
      · exact ⟨none, _, rfl, rfl⟩
      · rintro i σ' H' _ ⟨b, sd, _, rfl⟩
        exact SqL.of hH2
      · rintro i x σ' H' hx ⟨b, sd, rfl, rfl⟩
        obtain ⟨z, rfl⟩ : ∃ z, x = V.int z := by
          rw [List.getElem?_map] at hx
          obtain ⟨z, h5, rfl⟩ := Option.map_eq_some_iff.mp hx
          exact ⟨z, rfl⟩
        refine ⟨_, rfl, _, _, rfl, rfl, .inr (by omega), _, rfl, _, _, rfl, rfl, .inl ⟨_, rfl, _, _, rfl, rfl, (by show (0 : Int) < 2147483647; decide), ?_⟩⟩
        exact ⟨_, _, rfl, rfl⟩
      · rintro σ' H' ⟨b, sd, rfl, rfl⟩
        refine fun m hm => ?_
        have s6 : Same H' (upd H' m (.dK [])) := same_new hm
        have nm : H m = none := s5.free hm
        have dD : Da (upd H' m (.dK [])) (.ref D) (.list (gs.map .int)) := .lst (s6 _ _ hL) (da_ints gs)
        have ok : EnvOk (upd H' m (.dK [])) [some (.ref a), some (.int k), some (.ref C), b, some (.ref D), some (.int sd)] [none, some (.int k), none, none, some (.list (gs.map .int)), some (.int sd)] :=
          ek_no _ (ek_da (.int k) (ek_no _ (ek_no _ (ek_da dD (ek_da (.int sd) ek_nil)))))
        refine tt_all ok (b := !decide (gs = [])) (by simp [ne_ints]) fun H7 s7 => ?_
        have fin : ∀ a0 : Int, tPairs
            [(tC (V.str "seed"), tVar 5), (tC (V.str "cells"), tOp rCat (tVar 2) (tLst (tCons (tOp (rI0 fun i j => V.int (i + j)) (tOp (rI CMul fun i j => V.int (i * j)) (tC (V.int 31)) (tVar 1)) (tC (V.int 5))) tNil))), (tC (V.str "spot"), tC (V.int 0))]
            [some (.ref a), some (.int k), some (.ref C), b, some (.ref D), some (.int sd)] H7
            fun ps H2 => H2 m = some (.dK []) ∧ ∃ kvs : List (Key × V), (V.str "left", V.int a0) :: ps = kvs.map (fun kv => (kV kv.1, kv.2)) ∧ kvs.length ≤ 15 ∧ Q (.ref m) (upd H2 m (.dK (mergeK [] kvs))) := by
          intro a0
          refine ⟨_, rfl, _, rfl, _, rfl, _, _, rfl, rfl, .inl (by omega), _, _, rfl, rfl, (by show 1 ≤ sizeLine; decide), fun l hl => ?_⟩
          have hC7 : H7 C = some (.lst (cs.map V.int)) := s7 _ _ (s6 _ _ hH2)
          have Cl : C ≠ l := ne_of_none hC7 hl
          refine ⟨C, l, _, _, rfl, rfl, by rw [upd_ne Cl]; exact hC7, upd_same, ?_, fun c2 hc2 => ?_⟩
          · rw [List.length_map]
            exact Nat.le_trans (m := 127) (by simp; omega) (by decide)
          have hm7 : H7 m = some (.dK []) := s7 _ _ upd_same
          have ml : m ≠ l := ne_of_none hm7 hl
          have hml : upd H7 l (.lst [V.int (31 * k + 5)]) m = some (.dK []) := by rw [upd_ne ml]; exact hm7
          have mc : m ≠ c2 := ne_of_none hml hc2
          refine ⟨by rw [upd_ne mc]; exact hml, mk a0 sd c2 0, rfl, (by show 4 ≤ 15; decide), ?_⟩
          rw [merge_mk]
          refine q m c2 (cs ++ [31 * k + 5]) _ nm (fun b o e => ?_) ⟨a0, sd, 0, upd_same, ?_, by simp, by simp; omega, by decide, by decide⟩
          · have e5 : H7 b = some o := s7 _ _ (s6 _ _ (s5 _ _ e))
            have nb : b ≠ m := ne_of_none e nm
            have e6 : upd H7 l (.lst [V.int (31 * k + 5)]) b = some o := by rw [upd_ne (ne_of_none e5 hl)]; exact e5
            rw [upd_ne nb, upd_ne (ne_of_none e6 hc2)]
            exact e6
          · rw [upd_ne (fun e => mc e.symm), upd_same, List.map_append]
            rfl
        by_cases hg : gs = []
        · rw [hg, decide_eq_true rfl]
          exact iteF (fin 0)
        · rw [decide_eq_false hg]
          refine iteT ?_
          cases gs with
          | nil => exact absurd rfl hg
          | cons g gs => exact ⟨_, rfl, D, _, 0, .int g, rfl, rfl, SqL.of (s7 _ _ (s6 _ _ hL)), by rw [atI_0]; rfl, fin g⟩
end
end Sb
end
section
set_option Elab.async false
set_option linter.all false
set_option maxRecDepth 100000
set_option maxHeartbeats 4000000
/-! En0: the law's entry at the caller, where no guard stands. -/
namespace Sb
open PySem PySem.Spec L2
open PyProof.Rows hiding St

/-- the script alone is known, to its object (where it is no object of the module) -/
def scr (K : PySem.W.Frag) (a : Addr) (o : Obj) (xs : List V) : Hp := fun b => if b = a ∧ K.lookup a = none then some (.frz o (.lst xs)) else none
theorem scr_some {K : PySem.W.Frag} {a b : Addr} {o : Obj} {xs : List V} {u : HO} (h : scr K a o xs b = some u) : b = a ∧ K.lookup a = none ∧ u = .frz o (.lst xs) := by
  unfold scr at h
  split at h
  · rename_i c
    cases h
    exact ⟨c.1, c.2, rfl⟩
  · cases h
theorem scr_none {K : PySem.W.Frag} {a b : Addr} {o : Obj} {xs : List V} (h : b = a → K.lookup a = none → False) : scr K a o xs b = none := by
  unfold scr
  exact if_neg fun c => h c.1 c.2
section
variable {P : Program} {w : World} {K : PySem.W.Frag} {mg mb : Str → Option Value} {t : Shared} {a : Addr} {us : List Value} {ns : List Int}
theorem entry (kin : K.In t.heap) (g : t.heap.Ns mainGlobals mg) (bn : t.heap.Ns builtinsNs mb) (bb : ∀ x : Str, x ≠ "__name__" → mb x = bootBuiltins x)
    (nl : t.heap.NoLimit) (gn : t.gens = #[]) (ha : t.heap.get? a = some { cls := .type "list", data := .seq us.toArray }) (hi : IntsAre us ns) (hz : ns.length ≤ sizeLine) :
    ∃ (H : Hp) (base : Heap), (∀ b u, H b = some u → ∃ o xs, u = .frz o (.lst xs)) ∧ SqL K H a (ns.map V.int) ∧ K.In base ∧ base.Ns mainGlobals mg ∧ Env0 P w K mg base callerA [] t H := by
  have rel := vals_ints hi
  have hlen := hi.length
  generalize hH : scr K a { cls := .type "list", data := .seq us.toArray } (ns.map V.int) = H
  have some_of : ∀ b u, H b = some u → b = a ∧ K.lookup a = none ∧ u = .frz { cls := .type "list", data := .seq us.toArray } (.lst (ns.map V.int)) := by
    intro b u e
    rw [← hH] at e
    exact scr_some e
  have free_of : ∀ b, (b = a → K.lookup a = none → False) → H b = none := by
    intro b e
    rw [← hH]
    exact scr_none e
  have dict_free : ∀ {b : Addr} {o : Obj} {es : Array DictEntry} {ep : Nat}, t.heap.get? b = some o → o.data = .dict es ep → H b = none := by
    intro b o es ep e d
    refine free_of b fun eb _ => ?_
    rw [eb, ha] at e
    cases e
    have d' : Data.seq us.toArray _ = Data.dict es ep := d
    cases d'
  have ns_keep : ∀ {b : Addr} {m : Str → Option Value}, t.heap.Ns b m → (hidT t.heap H).Ns b m := by
    rintro b m ⟨o, es, ep, e, d, r⟩
    exact ⟨o, es, ep, hidT_get e (dict_free e d), d, r⟩
  have kin2 : K.In (hidT t.heap H) := by
    intro b o e
    refine hidT_get (kin b o e) (free_of b fun eb en => ?_)
    rw [eb, en] at e
    cases e
  have mod : Mod K mg (hidT t.heap H) := by
    obtain ⟨mc, c1, c2⟩ := nl
    exact ⟨kin2, ns_keep g, ⟨mb, ns_keep bn, bb⟩, ⟨mc, ns_keep c1, c2⟩⟩
  have sq : SqL K H a (ns.map V.int) := by
    cases hk : K.lookup a with
    | none =>
      refine .inl (.inr ⟨{ cls := .type "list", data := .seq us.toArray }, ?_⟩)
      rw [← hH]
      exact if_pos ⟨rfl, hk⟩
    | some o =>
      have e := kin a o hk
      rw [ha] at e
      cases e
      refine .inr ⟨_, us.toArray, _, hk, rfl, rfl, rfl, ?_, by simpa using rel⟩
      rw [List.size_toArray, hlen]
      exact hz
  have hok : HOk P w H t.heap := by
    intro b u e
    obtain ⟨rfl, _, rfl⟩ := some_of b u e
    refine ⟨ha, ?_, us, _, rel, ha⟩
    rw [List.length_map]
    exact hz
  refine ⟨H, hidT t.heap H, fun b u e => ?_, sq, kin2, ns_keep g, rfl, mod, fun b o => of_hidT, ?_, trivial, fun b z => ?_, hok, .of_eq gn⟩
  · obtain ⟨_, _, e3⟩ := some_of b u e
    exact ⟨_, _, e3⟩
  · exact Nat.le_of_eq (hidT_size _ _)
  · cases (show b ∈ ([] : List Addr) from z)
/-- a def's call at one place, by its body there -/
theorem fun_at {x qual : Str} {st : Stmt} {f : Addr} {fd : FuncData} {N ps : List Str} {base : Heap} {A : Around} {outer : List Env} {H : Hp} {args : Args} {vs : List V} {Q : VK}
    (F : Fun K x qual st f fd) (S : FnScope N ps (defScope st)) (nh : A.handled = none) (dp : A.depth < recursionLimit) (e0 : Env0 P w K mg base A outer t H) (bt : BindsTo t fd args (ps.zip us)) (r : Vals vs us) (hl : vs.length = ps.length)
    (go : ∀ cdv, ∃ tt, PSs (cxOf CX0 P w K mg base N qual (defScope st) f cdv A outer t H E0).nox (defBody st) tt ∧ tt { nx := fun _ H' => Q .non H', rt := Q } (L2.start N vs) H) :
    codeAny (model P w) A (.call (.ref f) args) (CR CX0 outer P w H t Q E0) t := by
  obtain ⟨oc, od, kV, doc, pm, an, cdv, ct, osl, rfl, lk, code⟩ := F.ex
  obtain ⟨tt, h0, hq⟩ := go cdv
  have h1 := h0.nox
  have old : ∀ b o, base.get? b = some o → t.heap.get? b = some o := fun b o e => (e0.bs b o e).1
  have kin : K.In t.heap := e0.mod.kin.keeps old
  have nl : t.heap.NoLimit := e0.mod.nolimit.keeps old
  have kinds : ∀ y ∈ ps.zip us, (defScope st).names.lookup y.1 = some .local ∨ ((defScope st).names.lookup y.1 = some .cell ∧ ((cellsFrom (t.heap.objs.size + 1) (defScope st).names []).lookup y.1).isSome = true) := by
    rintro ⟨y, v⟩ hy
    refine (S.par y (List.of_mem_zip hy).1).imp id fun z => ⟨z, ?_⟩
    exact PySem.W.cellsFrom_some _ _ _ (.inl z)
  refine codeAny_call_function dp (kin _ _ lk) rfl S.co S.gen rfl (PySem.W.codeRec_of kin code) (bt _ _ _ _ ?_)
  refine wpAny_newFunctionEnv_cells S.kind kinds ?_
  rintro env rfl t1 new
  refine ⟨nl.keeps new.toInCall.keep, codeAny_func ?_⟩
  have inv := inv_start (CX := CX0) (E := E0) (cd := cdv) S nh e0 hl r new
  have stop : ∀ {σ' : St} {H' : Hp} {v : V} {u : Value} {t2 : Shared}, Inv (cxOf CX0 P w K mg base N qual (defScope st) f cdv A outer t H E0) [] σ' H' t2 → RelV v u → Q v H' → CE outer P w H t Q u t2 := by
    intro σ' H' v u t2 J rv q
    exact ⟨v, H', J.os, J.bare, J.base, J.hok, rv, q⟩
  refine wpAny_mono (h1.run [] t1 _ H _ inv hq) ?_ (fun _ _ z => z)
  intro fl t2 z
  cases fl with
  | brk => exact False.elim z.choose_spec.choose_spec.2
  | cont => exact False.elim z.choose_spec.choose_spec.2
  | next =>
    obtain ⟨σ', H', J, q⟩ := z
    exact stop (v := .non) (u := .none) J rfl q
  | ret u =>
    obtain ⟨v, σ', H', J, rv, q⟩ := z
    exact stop J rv q
end
end Sb
end
section
set_option Elab.async false
set_option linter.all false
set_option maxRecDepth 100000
set_option maxHeartbeats 4000000
/-! Rp0: texts of ways, logs, answers. -/
namespace Sb
open PySem PySem.Spec L2
open PyProof.Rows hiding St

/-- may be shown, in a text that is not long -/
structure Rp (n : Nat) (d : PyData) : Prop where
  sh : d.showable = true
  lv : d.leavesShort 200 = true
  wt : d.weight ≤ n
theorem Rp.mono {n m : Nat} {d : PyData} (h : Rp n d) (l : n ≤ m) : Rp m d := ⟨h.sh, h.lv, Nat.le_trans h.wt l⟩
theorem log2_small {n : Nat} (h : n < 2 ^ 104) : n.log2 < 104 := by
  by_cases h0 : n = 0
  · rw [h0]
    decide
  · exact (Nat.log2_lt h0).mpr h
theorem rp_int {i : Int} (h : i.natAbs < 2 ^ 104) : Rp 105 (.int i) := by
  have hl := log2_small h
  refine ⟨?_, ?_, ?_⟩
  · simp only [PyData.showable]
    exact decide_eq_true (by omega)
  · have e := int_text_length_le (k := 104) (by decide) hl
    simp only [PyData.leavesShort, PyData.shown]
    refine decide_eq_true ?_
    have e2 : (Str.ofString (toString i)).length = (toString i).length := by
      rw [PySem.ofString_length]
    exact Nat.le_trans (Nat.le_of_eq e2) (by omega)
  · simp only [PyData.weight]
    split <;> omega
theorem rp_bool (b : Bool) : Rp 0 (.bool b) := ⟨by simp [PyData.showable], by simp [PyData.leavesShort], by simp [PyData.weight]⟩
theorem rp_all {n : Nat} : ∀ {ds : List PyData}, (∀ d ∈ ds, Rp n d) → PyData.showableAll ds = true ∧ PyData.leavesShortAll 200 ds = true ∧ PyData.weightAll ds ≤ (n + 1) * ds.length
  | [], _ => ⟨by simp [PyData.showableAll], by simp [PyData.leavesShortAll], by simp [PyData.weightAll]⟩
  | d :: ds, h => by
    obtain ⟨a, b, c⟩ := rp_all fun x hx => h x (List.mem_cons_of_mem d hx)
    have r := h d List.mem_cons_self
    have r1 := r.sh
    have r2 := r.lv
    have r3 := r.wt
    refine ⟨by simp [PyData.showableAll, a, r1], by simp [PyData.leavesShortAll, b, r2], ?_⟩
    simp only [PyData.weightAll, List.length_cons]
    rw [Nat.mul_succ]
    omega
theorem rp_tuple {n k : Nat} {ds : List PyData} (h : ∀ d ∈ ds, Rp n d) (l : ds.length ≤ k) : Rp ((n + 1) * k) (.tuple ds) := by
  obtain ⟨a, b, c⟩ := rp_all h
  exact ⟨by simp [PyData.showable, a], by simp [PyData.leavesShort, b], by simp only [PyData.weight]; exact Nat.le_trans c (Nat.mul_le_mul_left _ l)⟩
theorem rp_list {n k : Nat} {ds : List PyData} (h : ∀ d ∈ ds, Rp n d) (l : ds.length ≤ k) : Rp ((n + 1) * k) (.list ds) := by
  obtain ⟨a, b, c⟩ := rp_all h
  exact ⟨by simp [PyData.showable, a], by simp [PyData.leavesShort, b], by simp only [PyData.weight]; exact Nat.le_trans c (Nat.mul_le_mul_left _ l)⟩
theorem rp_ps (p : Ps) : Rp 100 (.str p.s) := by cases p <;> exact ⟨rfl, by decide +kernel, by decide +kernel⟩
theorem rp_sp (b : Bool) : Rp 100 (.str (spS b)) := by cases b <;> exact ⟨rfl, by decide +kernel, by decide +kernel⟩
theorem rp_be (b : Bool) : Rp 100 (.str (beS b)) := by cases b <;> exact ⟨rfl, by decide +kernel, by decide +kernel⟩
theorem repr_ok {d : PyData} {n m : Nat} (hs : isSeq d = true) (s : ShN n d) (r : Rp m d) (hn : n ≤ 60 := by decide) (hm : m ≤ 80000 := by decide) : pyRepr [d] = some (.str d.shown) := by
  have e := PyData.shown_le 200 (by decide) d r.lv
  have w := r.wt
  have z : d.shown.length ≤ sizeLine := by
    rw [sizeLine_eq]
    have : (200 + 2) * d.weight ≤ 202 * 80000 := Nat.mul_le_mul_left _ (Nat.le_trans w hm)
    omega
  show (if isSeq d = true ∧ PyData.canLay0 d = true ∧ d.showable = true ∧ d.depth ≤ 60 ∧ d.shown.length ≤ sizeLine then some (PyData.str d.shown) else none) = _
  rw [if_pos ⟨hs, s.a, r.sh, Nat.le_trans s.b hn, z⟩]
theorem shn_eKs (k : List Int) : ShN 1 (eKs k) := shn_tuple (shn_ints k)
theorem shn_eW (w : Way) : ShN 3 (eW w) := shn_tuple (n := 2) fun d hd => by
  simp only [List.mem_cons, List.not_mem_nil, or_false] at hd
  rcases hd with rfl | rfl | rfl | rfl | rfl
  · exact shn_tuple (n := 1) fun d hd => by
      obtain ⟨k, _, rfl⟩ := List.mem_map.mp hd
      exact shn_eKs k
  · exact (shn_str (ok_ps _)).mono (by decide)
  · exact (shn_str (ok_sp _)).mono (by decide)
  · exact (shn_int _).mono (by decide)
  · exact (shn_str (ok_be _)).mono (by decide)
theorem shn_eEv (e : Int × Int) : ShN 1 (eEv e) := shn_tuple (n := 0) fun d hd => by
  simp only [List.mem_cons, List.not_mem_nil, or_false] at hd
  rcases hd with rfl | rfl <;> exact shn_int _
theorem shn_eL (l : Log) : ShN 2 (eL l) := shn_tuple (n := 1) fun d hd => by
  obtain ⟨e, _, rfl⟩ := List.mem_map.mp hd
  exact shn_eEv e
theorem rp_eKs {k : List Int} (up : k.Pairwise (· < ·)) (h : ∀ x ∈ k, 0 ≤ x ∧ x ≤ 4) : Rp 530 (eKs k) := by
  have hl := ascI_len (b := 5) up fun x hx => by have := h x hx; omega
  refine rp_tuple (n := 105) (k := 5) (fun d hd => ?_) (by rw [List.length_map]; exact hl)
  obtain ⟨x, hx, rfl⟩ := List.mem_map.mp hd
  have := h x hx
  exact rp_int (by omega)
theorem rp_eW {w : Way} (ok : w.Ok) : Rp 10625 (eW w) := by
  refine rp_tuple (n := 2124) (k := 5) (fun d hd => ?_) (Nat.le_refl 5)
  simp only [List.mem_cons, List.not_mem_nil, or_false] at hd
  rcases hd with rfl | rfl | rfl | rfl | rfl
  · refine rp_tuple (n := 530) (k := 4) (fun d hd => ?_) (by rw [List.length_map]; exact ok.s4)
    obtain ⟨k, hk, rfl⟩ := List.mem_map.mp hd
    obtain ⟨_, b, c, _⟩ := ok.ks k hk
    exact rp_eKs b c
  · exact (rp_ps _).mono (by decide)
  · exact (rp_sp _).mono (by decide)
  · have := ok.w0
    have := ok.w8
    exact (rp_int (by omega)).mono (by decide)
  · exact (rp_be _).mono (by decide)
theorem rp_eL {l : Log} (lo : LogOk l) (hl : l.length ≤ 8) : Rp 1704 (eL l) := by
  refine rp_tuple (n := 212) (k := 8) (fun d hd => ?_) (by rw [List.length_map]; exact hl)
  obtain ⟨e, he, rfl⟩ := List.mem_map.mp hd
  obtain ⟨⟨a, b⟩, c, d⟩ := lo.gk e he
  refine rp_tuple (n := 105) (k := 2) (fun d hd => ?_) (Nat.le_refl 2)
  simp only [List.mem_cons, List.not_mem_nil, or_false] at hd
  rcases hd with rfl | rfl
  · exact rp_int (by omega)
  · exact rp_int (by omega)
/-- the text of a way and a log -/
def txt (w : Way) (l : Log) : Str := (PyData.list [eW w, eL l]).shown
theorem repr_wl {w : Way} {l : Log} (ok : w.Ok) (lo : LogOk l) (hl : l.length ≤ 8) : pyRepr [.list [eW w, eL l]] = some (.str (txt w l)) := by
  refine repr_ok (n := 4) (m := 21252) rfl (shn_list (n := 3) fun d hd => ?_) (rp_list (n := 10625) (k := 2) (fun d hd => ?_) (Nat.le_refl 2))
  · simp only [List.mem_cons, List.not_mem_nil, or_false] at hd
    rcases hd with rfl | rfl
    · exact shn_eW w
    · exact (shn_eL l).mono (by decide)
  · simp only [List.mem_cons, List.not_mem_nil, or_false] at hd
    rcases hd with rfl | rfl
    · exact rp_eW ok
    · exact (rp_eL lo hl).mono (by decide)
theorem repr_dd {d : Int} (h0 : 0 ≤ d) (h4 : d ≤ 4) : pyRepr [.list [.int d, .int d]] = some (.str (PyData.list [.int d, .int d]).shown) := by
  refine repr_ok (n := 1) (m := 212) rfl (shn_list (n := 0) fun d hd => ?_) (rp_list (n := 105) (k := 2) (fun d hd => ?_) (Nat.le_refl 2))
  · simp only [List.mem_cons, List.not_mem_nil, or_false] at hd
    rcases hd with rfl | rfl <;> exact shn_int _
  · simp only [List.mem_cons, List.not_mem_nil, or_false] at hd
    rcases hd with rfl | rfl <;> exact rp_int (by omega)
theorem repr_db {d : Int} (b : Bool) (h0 : 0 ≤ d) (h4 : d ≤ 4) : pyRepr [.tuple [.int d, .bool b]] = some (.str (PyData.tuple [.int d, .bool b]).shown) := by
  refine repr_ok (n := 1) (m := 212) rfl (shn_tuple (n := 0) fun d hd => ?_) (rp_tuple (n := 105) (k := 2) (fun d hd => ?_) (Nat.le_refl 2))
  · simp only [List.mem_cons, List.not_mem_nil, or_false] at hd
    rcases hd with rfl | rfl
    · exact shn_int _
    · exact shn_bool _
  · simp only [List.mem_cons, List.not_mem_nil, or_false] at hd
    rcases hd with rfl | rfl
    · exact rp_int (by omega)
    · exact (rp_bool b).mono (by decide)
/-- != of texts, whatever they are -/
def pyNeS : PyData → PyData → Option PyData
  | .str a, .str b => some (.bool (!decide (V.str a = V.str b)))
  | _, _ => none
theorem rd_neS : RD rNe pyNeS := by
  intro G H x y dx dy d s hx hy h Q q
  cases hx <;> cases hy <;> first | (simp [pyNeS] at h; done) | skip
  simp only [pyNeS, Option.some.injEq] at h
  subst h
  exact ⟨rfl, q _ G H (.refl s) (.bl _)⟩
@[simp] theorem neS_same (a : Str) : pyNeS (.str a) (.str a) = some (.bool false) := by
  show some (PyData.bool (!decide (V.str a = V.str a))) = _
  rw [decide_eq_true rfl]
  rfl
end Sb
end
section
set_option Elab.async false
set_option linter.all false
set_option maxRecDepth 100000
set_option maxHeartbeats 4000000
/-! Hn8: the law. -/
namespace Sb
open PySem PySem.Spec L2
open PyProof.Rows hiding St
theorem sc_law : FnScope ["_law_script", "_law_k", "_law_m", "_law_turn", "_law_way_here", "_law_log_here", "_law_due", "_law_kept", "_law_begun_here", "_law_gap", "_law_kind"] ["_law_script"] (defScope sT_law) := ⟨rfl, rfl, rfl, by decide +kernel, rfl, by decide +kernel, by decide +kernel⟩
theorem begun_data (w : Way) (l : Log) (h : l.length ≤ 8) (h1 : 1 ≤ w.st.length) : ∀ a0 a1 a2 a3 a6 a7 a8 a9 a10, (e2 pyNe (eLc (iS (eV 5)) (tgN [9, 10]) (fT (e2 (pyIn false) (eV 10) (e2 pyIx (e2 pyIx (eV 4) (eC (.int 0))) (eC (.int 0))))) (eC (.int 1)) [9, 10]) (eLst aN)) [a0, a1, a2, a3, some (eW w), some (eL l), a6, a7, a8, a9, a10] = some (.bool (begun0 w l)) := by
  intro a0 a1 a2 a3 a6 a7 a8 a9 a10
  have c1 : ∀ b0 b1 b2 b3 b6 b7 b8, compL (tgN [9, 10]) (fT (e2 (pyIn false) (eV 10) (e2 pyIx (e2 pyIx (eV 4) (eC (.int 0))) (eC (.int 0))))) (eC (.int 1)) [b0, b1, b2, b3, some (eW w), some (eL l), b6, b7, b8, none, none] (l.map eEv)
      = some ((l.filter fun e => decide (e.2 ∈ (w.st[0]?).getD [])).map fun _ => .int 1) := fun b0 b1 b2 b3 b6 b7 b8 =>
    compL_eq eEv (fun e => decide (e.2 ∈ (w.st[0]?).getD [])) (fun _ => .int 1) _ fun e he => ⟨_, rfl, by
      have hj : 0 < w.st.length := by omega
      simp [List.getElem?_eq_getElem hj], fun _ => by simp⟩
  have k1 : cap (l.map eEv) = some (l.map eEv) := cap_ok (by simp; omega)
  have n1 := ne_ones (l.filter fun e => decide (e.2 ∈ (w.st[0]?).getD []))
  have eb : begun0 w l = !(l.filter fun e => decide (e.2 ∈ (w.st[0]?).getD [])).isEmpty := by
    unfold begun0
    rw [Bool.eq_iff_iff, List.any_eq_true]
    simp only [Bool.not_eq_true', ← Bool.not_eq_true, List.isEmpty_iff, List.filter_eq_nil_iff]
    constructor
    · rintro ⟨x, hx, hp⟩ q
      exact q x hx hp
    · intro q
      refine Classical.byContradiction fun z => q fun x hx hp => z ⟨x, hx, hp⟩
  rw [eb]
  simp [k1, c1, n1]
def spLaw (K : PySem.W.Frag) : Sp := fun vs H Q _ => ∃ (a : Addr) (ns : List Int), vs = [.ref a] ∧ SqL K H a (ns.map V.int) ∧ ns.length ≤ 63 ∧ ∀ H', Q (.bl true) H'
section
variable {P : Program} {w : World} {K : PySem.W.Frag} {mg : Str → Option Value} {base : Heap}
theorem ok_law (M : Mg mg) (mMin : mg "min" = none) {f : Addr} {cdv : Value} {A : Around} {outer : List Env} {s : Shared} {H : Hp} {E : XK} {Q : VK} {a : Addr} {ns : List Int}
    (hr : Room 8 (A.deeper (envOfC "law" (defScope sT_law) s.heap.objs.size f cdv))) (hg : (A.deeper (envOfC "law" (defScope sT_law) s.heap.objs.size f cdv)).guards = some [])
    (D1 : Dk P w K mg base 1 "_law_begun" ["_law_script", "_law_k"] (spBegun K)) (D2 : Dk P w K mg base 3 "_law_way" ["_law_m", "_law_most", "_law_window"] spWay) (D3 : Dk P w K mg base 3 "_law_log" ["_law_m", "_law_way_here", "_law_most"] spLog)
    (D4 : Dk P w K mg base 4 "_law_level" ["_law_way_here", "_law_log_here"] (spD m_law_level)) (D5 : Dk P w K mg base 6 "level" ["way", "log"] (spD m_level))
    (D6 : Dk P w K mg base 7 "_law_chain_right" ["_law_way_here", "_law_log_here", "_law_due"] (spD m_law_chain_right)) (D7 : Dk P w K mg base 6 "standing_of" ["way", "log"] (spD m_standing_of))
    (hS : SqL K H a (ns.map V.int)) (hlen : ns.length ≤ 63) (hQ : ∀ H', Q (.bl true) H') :
    ∃ t, PSs (cxOf CX0 P w K mg base ["_law_script", "_law_k", "_law_m", "_law_turn", "_law_way_here", "_law_log_here", "_law_due", "_law_kept", "_law_begun_here", "_law_gap", "_law_kind"] "law" (defScope sT_law) f cdv A outer s H E).nox (defBody sT_law) t ∧
      t { nx := fun _ H' => Q .non H', rt := Q } (L2.start ["_law_script", "_law_k", "_law_m", "_law_turn", "_law_way_here", "_law_log_here", "_law_due", "_law_kept", "_law_begun_here", "_law_gap", "_law_kind"] [.ref a]) H := by
  have hu := hr.units
  refine ⟨_, pss_cons (ps_for PassesOwn.never rfl (pi_range1 (by rfl) M.range (pa_cons (pe_op op_add pe_int (pe_callB (call_min2 rfl) (by rfl) mMin boot_min (pa_cons (pe_callB call_len_seq (by rfl) M.len PySem.boot_len (pa_cons (pv 0) pa_nil)) (pa_cons pe_int pa_nil)))) pa_nil)) (pg_name (i := 1) sc_law.nd rfl (Or.inl rfl))
      (pss_cons (ps_set (i := 2) sc_law.nd rfl (Or.inl rfl) (pe_dk D1 (hr.mono (by decide)) (pa_cons (pv 0) (pa_cons (pv 1) pa_nil))))
      (pss_one (ps_for PassesOwn.never rfl (pi_range1 (by rfl) M.range (pa_cons pe_int pa_nil)) (pg_name (i := 3) sc_law.nd rfl (Or.inl rfl))
        (pss_cons (ps_set (i := 4) sc_law.nd rfl (Or.inr rfl) (pe_dk D2 (hr.mono (by decide)) (pa_cons (pv 2) (pa_cons pe_int (pa_cons pe_int pa_nil)))))
        (pss_cons (ps_set (i := 5) sc_law.nd rfl (Or.inl rfl) (pe_dk D3 (hr.mono (by decide)) (pa_cons (pv 2) (pa_cons (pv 4) (pa_cons pe_int pa_nil)))))
        (pss_cons (ps_par (i := 6) (j := 7) rfl sc_law.nd rfl rfl (by decide) rfl rfl (pa_cons (pd_callD D4 (hr.mono (by decide)) (da_cons (pd_var 4) (da_cons (pd_var 5) da_nil))) (pa_cons (pd_callB (cr_repr hg hu) rd_repr M.repr boot_repr (da_cons (pd_lst (da_cons (pd_var 4) (da_cons (pd_var 5) da_nil))) da_nil)) pa_nil)) rfl rfl)
        (pss_cons (ps_if (td_cmp op_ne rd_neS (pd_callB (cr_repr hg hu) rd_repr M.repr boot_repr (da_cons (pd_lst (da_cons (pd_callD D5 (hr.mono (by decide)) (da_cons (pd_var 4) (da_cons (pd_var 5) da_nil))) (da_cons (pd_callD D5 (hr.mono (by decide)) (da_cons (pd_var 4) (da_cons (pd_var 5) da_nil))) da_nil))) da_nil))
            (pd_callB (cr_repr hg hu) rd_repr M.repr boot_repr (da_cons (pd_lst (da_cons (pd_var 6) (da_cons (pd_var 6) da_nil))) da_nil))) (pss_one (ps_ret pe_bl)) pss_nil)
        (pss_cons (ps_if (td_not (td_val (pd_callD D6 (hr.mono (by decide)) (da_cons (pd_var 4) (da_cons (pd_var 5) (da_cons (pd_var 6) da_nil)))))) (pss_one (ps_ret pe_bl)) pss_nil)
        (pss_cons (ps_set (i := 8) sc_law.nd rfl (Or.inl rfl) (pd_cmp (op_neD hr.units) rd_ne (pd_lc (own := [("_law_gap", 9), ("_law_kind", 10)]) (blkOk_by (N := ["_law_script", "_law_k", "_law_m", "_law_turn", "_law_way_here", "_law_log_here", "_law_due", "_law_kept", "_law_begun_here", "_law_gap", "_law_kind"]) (sc := defScope sT_law) (by decide +kernel)) (di_seq (pd_var 5))
            (fun _ _ _ _ _ => (pg_tup rfl (pgs_cons (pg_name (i := 9) sc_law.nd rfl (Or.inl rfl)) (pgs_cons (pg_name (i := 10) sc_law.nd rfl (Or.inl rfl)) pgs_nil)))) (fun _ _ _ _ _ => (pts_one (td_cmp op_in_seq rd_in (pd_var 10) (pd_ix ix_any rd_ix (pd_ix ix_any rd_ix (pd_var 4) pd_int) pd_int)))) (fun _ _ _ _ _ => pd_int) (gd_N (gds_cons (gds_cons gds_nil)) rfl) cd_T sc_law.nd) (pd_lst da_nil)))
        (pss_one (ps_if (PW.pt (tw_or (td_cmp op_ne rd_neS (pd_callB (cr_repr hg hu) rd_repr M.repr boot_repr (da_cons (pd_slice (pd_callD D7 (hr.mono (by decide)) (da_cons (pd_var 4) (da_cons (pd_var 5) da_nil))) do_none (do_some pd_int)) da_nil))
              (pd_callB (cr_repr hg hu) rd_repr M.repr boot_repr (da_cons (pd_tup (da_cons (pd_var 6) (da_cons (pd_var 8) da_nil))) da_nil)))
            (tw_or1 (td_cmp op_ne rd_neS (pd_callB (cr_repr hg hu) rd_repr M.repr boot_repr (da_cons (pd_lst (da_cons (pd_var 4) (da_cons (pd_var 5) da_nil))) da_nil)) (pd_var 7))))) (pss_one (ps_ret pe_bl)) pss_nil)))))))))))) (pss_one (ps_ret pe_bl)), ?_⟩
  refine ⟨_, rfl, a, _, rfl, .inl hS, _, _, rfl, _, _, rfl, rfl, _, rfl, ?_, ?_, ?_⟩
  · rw [List.length_map]; split <;> omega
  · rw [List.length_map]; split <;> omega
  refine for_range (fun i σ' H' => ∃ b1 b2 b3 b4 b5 b6 b7 b8 b9 b10, σ' = [some (.ref a), b1, b2, b3, b4, b5, b6, b7, b8, b9, b10] ∧ Same H H') ⟨_, _, _, _, _, _, _, _, _, _, rfl, .refl H⟩ ?_ ?_
  · rintro i σ' H1 hi ⟨b1, b2, b3, b4, b5, b6, b7, b8, b9, b10, rfl, s1⟩
    refine ⟨_, rfl, _, rfl, a, ns, _, rfl, s1.seq hS, hlen, fun m c cs H2 hm s2 st2 => ?_⟩
    refine ⟨8, rfl, by decide, by decide, ?_⟩
    refine for_range (fun j σ' H' => ∃ c3 c4 c5 c6 c7 c8 c9 c10, σ' = [some (.ref a), some (.int (0 + (i : Int))), some (.ref m), c3, c4, c5, c6, c7, c8, c9, c10] ∧ MM m H2 H' ∧ Mst (60 * j) m c cs H') ⟨_, _, _, _, _, _, _, _, rfl, .refl m H2, st2⟩ ?_ ?_
    · rintro j σ' H3 hj ⟨c3, c4, c5, c6, c7, c8, c9, c10, rfl, mm3, st3⟩
      have hj8 : j < 8 := hj
      refine ⟨_, rfl, 60 * j, m, c, cs, rfl, by omega, st3, fun wv w H4 ok dw mm4 st4 => ?_⟩
      refine ⟨_, rfl, _, rfl, 60 * j + 30, m, c, cs, wv, w, rfl, by omega, st4, dw, ok, fun lv l H5 lo hl8 dl mm5 st5 => ?_⟩
      have dw5 := dw.keep mm5
      have mm05 := (mm3.trans mm4).trans mm5
      obtain ⟨d, ages, e1, e2, e3, e4, d0, d4⟩ := all_right ok lo hl8
      have rwl := repr_wl ok lo hl8
      have rdd := repr_dd d0 d4
      have rdb := repr_db (begun0 w l) d0 d4
      have ek : ∀ {G : Hp} (x6 x7 x8 x9 x10 : Option V) {e6 e7 e8 : Option PyData}, Da G wv (eW w) → Da G lv (eL l) → EnvOk G [x6, x7, x8, x9, x10] [e6, e7, e8, none, none] →
          EnvOk G [some (.ref a), some (.int (0 + (i : Int))), some (.ref m), some (.int (0 + (j : Int))), some wv, some lv, x6, x7, x8, x9, x10] [none, none, none, none, some (eW w), some (eL l), e6, e7, e8, none, none] :=
        by intro G x6 x7 x8 x9 x10 e6 e7 e8 dw dl r; exact ek_no _ (ek_no _ (ek_no _ (ek_no _ (ek_da dw (ek_da dl r)))))
      -- due, kept
      have ok5 := ek c6 c7 c8 c9 c10 dw5 dl (ek_no _ (ek_no _ (ek_no _ (ek_no _ (ek_no _ ek_nil)))))
      refine td_run ok5 (d := .int d) (by simp [e1]) st5.at fun v1 H6 s6 r6 => ?_
      obtain rfl : v1 = .int d := r6.int'
      have ok6 := ok5.mono (cut_mm (.of s6))
      refine td_run ok6 (d := .str (txt w l)) (by simp [rwl]) (st5.keep s6).at fun v2 H7 s7 r7 => ?_
      obtain rfl : v2 = .str (txt w l) := by cases r7; rfl
      have s57 := s6.trans s7
      have dw7 := dw5.keep (.of s57)
      have dl7 := dl.keep (.of s57)
      have st7 := st5.keep s57
      refine ⟨_, _, rfl, ?_⟩
      -- told twice
      have ok7 : EnvOk (cut m H7) _ _ := ek (some (.int d)) (some (.str (txt w l))) c8 c9 c10 dw7 dl7 (ek_da (.int d) (ek_da (.str _) (ek_no _ (ek_no _ (ek_no _ ek_nil)))))
      refine tt_do ok7 (b := false) (by simp [e2, rdd]) fun H8 s8 => iteF ?_
      -- the chain
      have ok8 := ok7.mono (cut_mm (.of s8))
      refine tt_do ok8 (b := false) (by simp [e3]) fun H9 s9 => iteF ?_
      -- begun
      have ok9 := ok8.mono (cut_mm (.of s9))
      have s79 := s8.trans s9
      refine td_run ok9 (d := .bool (begun0 w l)) (begun_data w l hl8 ok.s1 _ _ _ _ _ _ _ _ _) (st7.keep s79).at fun v3 Ha sa ra => ?_
      obtain rfl : v3 = .bl (begun0 w l) := by cases ra; rfl
      have s7a := s79.trans sa
      have oka : EnvOk (cut m Ha) _ _ := ek (some (.int d)) (some (.str (txt w l))) (some (.bl (begun0 w l))) c9 c10 (dw7.keep (.of s7a)) (dl7.keep (.of s7a)) (ek_da (.int d) (ek_da (.str _) (ek_da (.bl _) (ek_no _ (ek_no _ ek_nil)))))
      have ct : cutL [PyData.int d, .bool (begun0 w l), ages] none (some 2) = [.int d, .bool (begun0 w l)] := by
        rw [show (2 : Int) = ((2 : Nat) : Int) from rfl, cut_to _ 2 (by simp)]
        rfl
      refine tt_do oka (b := false) (by simp [e4, ct, rdb, rwl]) fun Hb sb => iteF ?_
      have s5b := (s57.trans s7a).trans sb
      exact ⟨_, _, _, _, _, _, _, _, rfl, mm05.trans (.of s5b), (st5.keep s5b).mono (by omega)⟩
    · rintro σ' H3 ⟨c3, c4, c5, c6, c7, c8, c9, c10, rfl, mm3, _⟩
      exact ⟨_, _, _, _, _, _, _, _, _, _, rfl, fun b o e => mm3 b o (ne_of_none (s1 b o e) hm) (s2 b o (s1 b o e))⟩
  · rintro σ' H1 _
    exact hQ H1
end
end Sb
end
section
set_option Elab.async false
set_option linter.all false
set_option maxRecDepth 100000
set_option maxHeartbeats 4000000
/-! En1: all defs together (printed by en.py). -/
namespace Sb
open PySem PySem.Spec L2
open PyProof.Rows hiding St
structure Dfs (K : PySem.W.Frag) (mg : Str → Option Value) : Prop where
  d_is_integer : Df K mg "is_integer" sT_is_integer ["value", "least", "most"]
  d_is_word : Df K mg "is_word" sT_is_word ["value", "words"]
  d_are_kinds : Df K mg "are_kinds" sT_are_kinds ["value"]
  d_are_steps : Df K mg "are_steps" sT_are_steps ["value"]
  d_wrong_place : Df K mg "wrong_place" sT_wrong_place ["thing"]
  d_need_way : Df K mg "need_way" sT_need_way ["thing"]
  d_steps_in : Df K mg "steps_in" sT_steps_in ["way", "kind"]
  d_is_event : Df K mg "is_event" sT_is_event ["value"]
  d_need_log : Df K mg "need_log" sT_need_log ["thing"]
  d_times_in : Df K mg "times_in" sT_times_in ["log"]
  d_first_in : Df K mg "first_in" sT_first_in ["way"]
  d_grown : Df K mg "grown" sT_grown ["ages", "gap", "window"]
  d_came : Df K mg "came" sT_came ["way", "begun", "ages", "kind"]
  d_lesser : Df K mg "lesser" sT_lesser ["one", "other"]
  d_behind_in : Df K mg "behind_in" sT_behind_in ["way", "standing", "event"]
  d_behind_all : Df K mg "behind_all" sT_behind_all ["way", "log"]
  d_standing_of : Df K mg "standing_of" sT_standing_of ["way", "log"]
  d_level : Df K mg "level" sT_level ["way", "log"]
  d_is_row : Df K mg "is_row" sT_is_row ["log", "value"]
  d_are_near : Df K mg "are_near" sT_are_near ["way", "log", "row"]
  d_is_any_chain : Df K mg "is_any_chain" sT_is_any_chain ["way", "log", "value"]
  d_is_free : Df K mg "is_free" sT_is_free ["way", "log", "row"]
  d_is_chain_in : Df K mg "is_chain_in" sT_is_chain_in ["way", "log", "value"]
  d_is_chain : Df K mg "is_chain" sT_is_chain ["way", "log", "value"]
  d_longest_any : Df K mg "longest_any" sT_longest_any ["way", "log"]
  d_one_longer : Df K mg "one_longer" sT_one_longer ["way", "log", "rows"]
  d_chain : Df K mg "chain" sT_chain ["way", "log"]
  d_law_when : Df K mg "_law_when" sT_law_when ["_law_log_here"]
  d_law_is_of : Df K mg "_law_is_of" sT_law_is_of ["_law_way_here", "_law_kind"]
  d_law_is_good : Df K mg "_law_is_good" sT_law_is_good ["_law_way_here", "_law_log_here", "_law_row"]
  d_law_chains : Df K mg "_law_chains" sT_law_chains ["_law_way_here", "_law_log_here"]
  d_law_most_near : Df K mg "_law_most_near" sT_law_most_near ["_law_way_here", "_law_log_here"]
  d_law_level : Df K mg "_law_level" sT_law_level ["_law_way_here", "_law_log_here"]
  d_law_is_any : Df K mg "_law_is_any" sT_law_is_any ["_law_way_here", "_law_log_here", "_law_row"]
  d_law_chain_right : Df K mg "_law_chain_right" sT_law_chain_right ["_law_way_here", "_law_log_here", "_law_due"]
  d_law_begun : Df K mg "_law_begun" sT_law_begun ["_law_script", "_law_k"]
  d_law_draw : Df K mg "_law_draw" sT_law_draw ["_law_m", "_law_many"]
  d_law_of : Df K mg "_law_of" sT_law_of ["_law_m", "_law_some_here"]
  d_law_some : Df K mg "_law_some" sT_law_some ["_law_m", "_law_most", "_law_share"]
  d_law_way : Df K mg "_law_way" sT_law_way ["_law_m", "_law_most", "_law_window"]
  d_law_log : Df K mg "_law_log" sT_law_log ["_law_m", "_law_way_here", "_law_most"]
section
variable {P : Program} {w : World} {K : PySem.W.Frag} {mg : Str → Option Value} {base : Heap}
structure Seven (P : Program) (w : World) (K : PySem.W.Frag) (mg : Str → Option Value) (base : Heap) : Prop where
  d1 : Dk P w K mg base 1 "_law_begun" ["_law_script", "_law_k"] (spBegun K)
  d2 : Dk P w K mg base 3 "_law_way" ["_law_m", "_law_most", "_law_window"] spWay
  d3 : Dk P w K mg base 3 "_law_log" ["_law_m", "_law_way_here", "_law_most"] spLog
  d4 : Dk P w K mg base 4 "_law_level" ["_law_way_here", "_law_log_here"] (spD m_law_level)
  d5 : Dk P w K mg base 6 "level" ["way", "log"] (spD m_level)
  d6 : Dk P w K mg base 7 "_law_chain_right" ["_law_way_here", "_law_log_here", "_law_due"] (spD m_law_chain_right)
  d7 : Dk P w K mg base 6 "standing_of" ["way", "log"] (spD m_standing_of)
theorem seven (M : Mg mg) (T : Dfs K mg) : Seven P w K mg base := by
  have D_is_integer := ok_is_integer (P := P) (w := w) (base := base) M T.d_is_integer 
  have D_is_word := ok_is_word (P := P) (w := w) (base := base) M T.d_is_word 
  have D_are_kinds := ok_are_kinds (P := P) (w := w) (base := base) M T.d_are_kinds D_is_integer
  have D_are_steps := ok_are_steps (P := P) (w := w) (base := base) M T.d_are_steps D_are_kinds
  have D_wrong_place := ok_wrong_place (P := P) (w := w) (base := base) M T.d_wrong_place D_is_word D_is_integer D_are_steps
  have D_need_way := ok_need_way (P := P) (w := w) (base := base) M T.d_need_way D_wrong_place
  have D_steps_in := ok_steps_in (P := P) (w := w) (base := base) M T.d_steps_in 
  have D_is_event := ok_is_event (P := P) (w := w) (base := base) M T.d_is_event D_is_integer
  have D_need_log := ok_need_log (P := P) (w := w) (base := base) M T.d_need_log D_is_event
  have D_times_in := ok_times_in (P := P) (w := w) (base := base) M T.d_times_in 
  have D_first_in := ok_first_in (P := P) (w := w) (base := base) M T.d_first_in 
  have D_grown := ok_grown (P := P) (w := w) (base := base) M T.d_grown 
  have D_came := ok_came (P := P) (w := w) (base := base) M T.d_came D_steps_in
  have D_lesser := ok_lesser (P := P) (w := w) (base := base) M T.d_lesser 
  have D_behind_in := ok_behind_in (P := P) (w := w) (base := base) M T.d_behind_in D_lesser D_came D_steps_in D_grown
  have D_behind_all := ok_behind_all (P := P) (w := w) (base := base) M T.d_behind_all D_behind_in D_first_in
  have D_standing_of := ok_standing_of (P := P) (w := w) (base := base) M T.d_standing_of D_behind_all D_need_log D_need_way
  have D_level := ok_level (P := P) (w := w) (base := base) M T.d_level D_behind_all D_need_log D_need_way
  have D_is_row := ok_is_row (P := P) (w := w) (base := base) M T.d_is_row D_is_integer
  have D_are_near := ok_are_near (P := P) (w := w) (base := base) M T.d_are_near D_times_in
  have D_is_any_chain := ok_is_any_chain (P := P) (w := w) (base := base) M T.d_is_any_chain D_are_near D_is_integer
  have D_is_free := ok_is_free (P := P) (w := w) (base := base) M T.d_is_free D_steps_in
  have D_is_chain_in := ok_is_chain_in (P := P) (w := w) (base := base) M T.d_is_chain_in D_steps_in D_is_free D_are_near D_is_row D_is_any_chain
  have D_is_chain := ok_is_chain (P := P) (w := w) (base := base) M T.d_is_chain D_is_chain_in D_need_log D_need_way
  have D_longest_any := ok_longest_any (P := P) (w := w) (base := base) M T.d_longest_any D_times_in
  have D_one_longer := ok_one_longer (P := P) (w := w) (base := base) M T.d_one_longer D_is_chain_in
  have D_chain := ok_chain (P := P) (w := w) (base := base) M T.d_chain D_one_longer D_is_chain_in D_longest_any D_need_log D_need_way
  have D_law_when := ok_law_when (P := P) (w := w) (base := base) M T.d_law_when 
  have D_law_is_of := ok_law_is_of (P := P) (w := w) (base := base) M T.d_law_is_of 
  have D_law_is_good := ok_law_is_good (P := P) (w := w) (base := base) M T.d_law_is_good D_law_is_of D_law_when
  have D_law_chains := ok_law_chains (P := P) (w := w) (base := base) M T.d_law_chains D_law_is_good
  have D_law_most_near := ok_law_most_near (P := P) (w := w) (base := base) M T.d_law_most_near D_law_is_of D_law_when
  have D_law_level := ok_law_level (P := P) (w := w) (base := base) M T.d_law_level D_law_chains D_law_most_near
  have D_law_is_any := ok_law_is_any (P := P) (w := w) (base := base) M T.d_law_is_any D_law_when
  have D_law_chain_right := ok_law_chain_right (P := P) (w := w) (base := base) M T.d_law_chain_right D_law_is_good D_law_is_any D_chain D_is_chain
  have D_begun := ok_law_begun (P := P) (w := w) (base := base) M T.d_law_begun
  have D_draw := ok_law_draw (P := P) (w := w) (base := base) M T.d_law_draw
  have D_of := ok_law_of M T.d_law_of D_draw
  have D_some := ok_law_some M T.d_law_some D_draw
  have D_way := ok_law_way M T.d_law_way D_draw D_of D_some
  have D_log := ok_law_log M T.d_law_log D_draw D_of
  exact ⟨D_begun, D_way, D_log, D_law_level, D_level, D_law_chain_right, D_standing_of⟩
end
end Sb
end
section
set_option Elab.async false
set_option linter.all false
set_option maxRecDepth 100000
set_option maxHeartbeats 4000000
/-! En2: what the head is asked, and the walk (printed by en.py). -/
namespace Sb
open PySem PySem.Spec L2
open PyProof.Rows hiding St
theorem mg_mk {K : PySem.W.Frag} {h : Heap} {mg : Str → Option Value} (X : K.In h) (G : h.Ns mainGlobals mg) (LA : PySem.W.LooseAre [("MOST_GAP", PySem.W.WData.int 1000000000000000000000000000000)] mg h)
    {t_MOST_KIND t_MOST_STEPS t_MOST_WINDOW t_LOOSE t_AMONG t_STRICT t_ANY t_WHOLE t_EACH t_ALL t_FIRST : Tok}
    (b_len : PySem.W.nsIn K mainGlobals "len" = some none)
    (b_all : PySem.W.nsIn K mainGlobals "all" = some none)
    (b_any : PySem.W.nsIn K mainGlobals "any" = some none)
    (b_sorted : PySem.W.nsIn K mainGlobals "sorted" = some none)
    (b_max : PySem.W.nsIn K mainGlobals "max" = some none)
    (b_min : PySem.W.nsIn K mainGlobals "min" = some none)
    (b_list : PySem.W.nsIn K mainGlobals "list" = some none)
    (b_tuple : PySem.W.nsIn K mainGlobals "tuple" = some none)
    (b_set : PySem.W.nsIn K mainGlobals "set" = some none)
    (b_isinstance : PySem.W.nsIn K mainGlobals "isinstance" = some none)
    (b_range : PySem.W.nsIn K mainGlobals "range" = some none)
    (b_enumerate : PySem.W.nsIn K mainGlobals "enumerate" = some none)
    (b_zip : PySem.W.nsIn K mainGlobals "zip" = some none)
    (b_int : PySem.W.nsIn K mainGlobals "int" = some none)
    (b_bool : PySem.W.nsIn K mainGlobals "bool" = some none)
    (b_str : PySem.W.nsIn K mainGlobals "str" = some none)
    (b_repr : PySem.W.nsIn K mainGlobals "repr" = some none)
    (c_MOST_KIND : PySem.W.nsIn K mainGlobals "MOST_KIND" = some (some (.int 4 t_MOST_KIND)))
    (c_MOST_STEPS : PySem.W.nsIn K mainGlobals "MOST_STEPS" = some (some (.int 4 t_MOST_STEPS)))
    (c_MOST_WINDOW : PySem.W.nsIn K mainGlobals "MOST_WINDOW" = some (some (.int 8 t_MOST_WINDOW)))
    (c_LOOSE : PySem.W.nsIn K mainGlobals "LOOSE" = some (some (.str "loose" t_LOOSE)))
    (c_AMONG : PySem.W.nsIn K mainGlobals "AMONG" = some (some (.str "among" t_AMONG)))
    (c_STRICT : PySem.W.nsIn K mainGlobals "STRICT" = some (some (.str "strict" t_STRICT)))
    (c_ANY : PySem.W.nsIn K mainGlobals "ANY" = some (some (.str "any" t_ANY)))
    (c_WHOLE : PySem.W.nsIn K mainGlobals "WHOLE" = some (some (.str "whole" t_WHOLE)))
    (c_EACH : PySem.W.nsIn K mainGlobals "EACH" = some (some (.str "each" t_EACH)))
    (c_ALL : PySem.W.nsIn K mainGlobals "ALL" = some (some (.str "all" t_ALL)))
    (c_FIRST : PySem.W.nsIn K mainGlobals "FIRST" = some (some (.str "first" t_FIRST))) : Mg mg := by
  obtain ⟨v, e, r⟩ := LA.val _ List.mem_cons_self
  refine ⟨PySem.W.mg_none_of X G b_len, PySem.W.mg_none_of X G b_all, PySem.W.mg_none_of X G b_any, PySem.W.mg_none_of X G b_sorted, PySem.W.mg_none_of X G b_max, PySem.W.mg_none_of X G b_min, PySem.W.mg_none_of X G b_list, PySem.W.mg_none_of X G b_tuple, PySem.W.mg_none_of X G b_set, PySem.W.mg_none_of X G b_isinstance, PySem.W.mg_none_of X G b_range, PySem.W.mg_none_of X G b_enumerate, PySem.W.mg_none_of X G b_zip, PySem.W.mg_none_of X G b_int, PySem.W.mg_none_of X G b_bool, PySem.W.mg_none_of X G b_str, PySem.W.mg_none_of X G b_repr, ⟨_, PySem.W.mg_of X G c_MOST_KIND⟩, ⟨_, PySem.W.mg_of X G c_MOST_STEPS⟩, ⟨_, PySem.W.mg_of X G c_MOST_WINDOW⟩, ⟨_, PySem.W.mg_of X G c_LOOSE⟩, ⟨_, PySem.W.mg_of X G c_AMONG⟩, ⟨_, PySem.W.mg_of X G c_STRICT⟩, ⟨_, PySem.W.mg_of X G c_ANY⟩, ⟨_, PySem.W.mg_of X G c_WHOLE⟩, ⟨_, PySem.W.mg_of X G c_EACH⟩, ⟨_, PySem.W.mg_of X G c_ALL⟩, ⟨_, PySem.W.mg_of X G c_FIRST⟩, ?_⟩
  cases r
  exact ⟨_, e⟩
theorem df_mk {K : PySem.W.Frag} {h : Heap} {mg : Str → Option Value} (X : K.In h) (G : h.Ns mainGlobals mg) {x : Str} {st : Stmt} {ps : List Str} {f : Addr} {od an : Option Addr} {sl : Array (Option Value)} {oc kV dc pm cd ct : Value}
    (a : PySem.W.nsIn K mainGlobals x = some (some (.ref f)))
    (l : K.lookup f = some ⟨oc, od, .func (PySem.W.fnOf x x (defArgs st) (defBody st) (defScope st) .none kV dc pm an cd ct), sl⟩)
    (c : PySem.W.codeIn K cd x = true) (k : PySem.W.keepIn K (.ref f) = true)
    (hb : ∀ (kV doc pm : Value) (an : Option Addr) (cdv ct : Value) (us : List Value), us.length = ps.length → bindArgs (PySem.W.fnOf x x (defArgs st) (defBody st) (defScope st) .none kV doc pm an cdv ct) ⟨us, []⟩ = pure (ps.zip us)) : Df K mg x st ps :=
  ⟨f, _, fun_mk l c k, PySem.W.mg_of X G a, (fun_mk l c k).binds hb⟩
/-- what the head gives -/
structure Hd (K : PySem.W.Frag) (mg : Str → Option Value) (fa : Addr) : Prop where
  ex : ∃ fd : FuncData, Fun K "law" "law" sT_law fa fd ∧ (∀ (s : Shared) (u : Value), BindsTo s fd ⟨[u], []⟩ [("_law_script", u)])
  m : Mg mg
  t : Dfs K mg
theorem f_mk {K : PySem.W.Frag} {h : Heap} {mg : Str → Option Value} (X : K.In h) (G : h.Ns mainGlobals mg) {fa f : Addr} (hfa : mg "law" = some (.ref fa)) {od an : Option Addr} {sl : Array (Option Value)} {oc kV dc pm cd ct : Value}
    (a : PySem.W.nsIn K mainGlobals "law" = some (some (.ref f)))
    (l : K.lookup f = some ⟨oc, od, .func (PySem.W.fnOf "law" "law" (defArgs sT_law) (defBody sT_law) (defScope sT_law) .none kV dc pm an cd ct), sl⟩)
    (c : PySem.W.codeIn K cd "law" = true) (k : PySem.W.keepIn K (.ref f) = true) (M : Mg mg) (T : Dfs K mg) : Hd K mg fa := by
  have e := hfa.symm.trans (PySem.W.mg_of X G a)
  cases e
  exact ⟨⟨_, fun_mk (st := sT_law) l c k, fun s v => .of_eq rfl⟩, M, T⟩
theorem room9 : Room 9 callerA := ⟨rfl, by decide, by decide⟩
theorem walk_law {l : PySem.W.OpenLaw} {q pp : Program} {loose : List Str} {lv : List (Str × PySem.W.WData)} {YP : World → Heap → Prop} {d : DefRec} {K : Params → PySem.W.Frag} (hn : l.most = some 63) (hdf : d.params.defaults = [])
    (hY : ∀ (w : World) (h : Heap), YP w h → (K w.params).In h)
    (F : ∀ (w : World) (mg : Str → Option Value) (fa : Addr) (h : Heap), (K w.params).In h → h.Ns mainGlobals mg → PySem.W.LooseAre lv mg h → mg d.name = some (.ref fa) → Hd (K w.params) mg fa) :
    PySem.W.WalkO q loose (PySem.W.XL pp lv) YP l.row.toRowW d [] (fun f vs => PySem.call f vs) := by
  refine Att.attach_call hn hdf fun w s₀ t mg mb fa o pm cd doc a us ns G Y ho hd hcd hmg hobj hints hlen hg => ?_
  have kin := hY w _ Y
  obtain ⟨⟨fd, hF, hB⟩, M, T⟩ := F w mg fa _ kin G.T.g G.X.2 hmg
  obtain ⟨H, base, frz, hS, kb, gb, e0⟩ := entry (P := l.prog) (w := w) kin G.T.g G.T.b G.T.builtins G.T.nolimit hg hobj hints (Nat.le_trans hlen (by decide))
  have S := seven (P := l.prog) (w := w) (base := base) M T
  refine codeAny_mono (fun_at (P := l.prog) (w := w) (mg := mg) (us := [.ref a]) (vs := [.ref a]) (Q := fun v _ => v = .bl true) hF sc_law rfl room9.depth e0 (hB t (.ref a)) (.cons rfl .nil) rfl fun cdv =>
    ok_law (P := l.prog) (w := w) (base := base) (f := fa) (cdv := cdv) (A := callerA) (outer := []) (s := t) (E := E0) (Q := fun v _ => v = .bl true) M M.min (room9.deeper _) rfl S.d1 S.d2 S.d3 S.d4 S.d5 S.d6 S.d7 hS hlen fun _ => rfl) fun r t2 z => ?_
  cases r with
  | error e => exact False.elim z
  | ok fl =>
    cases fl with
    | next => exact False.elim z
    | brk => exact False.elim z
    | cont => exact False.elim z
    | ret u =>
      obtain ⟨v, H2, os, bare, un, hok, rv, rfl⟩ := z
      obtain rfl : u = Value.bool true := rv
      refine ⟨rfl, OldK.of_keep fun b ob e => ?_, os, bare⟩
      cases hb : H b with
      | none => exact un.keep b ob e hb (fun z => nomatch (show b ∈ ([] : List Addr) from z)) (by simp)
      | some x =>
        obtain ⟨o1, xs, rfl⟩ := frz b x hb
        have e1 := (e0.hok b _ hb).1
        have e2 := (hok b _ (un.frzs b o1 _ hb)).1
        rw [e] at e1
        cases e1
        exact e2
end Sb
end
set_option Elab.async false
set_option maxRecDepth 100000

open PySem PySem.W PyProof.Rows in
set_option maxRecDepth 100000 in
set_option maxHeartbeats 0 in
theorem PySem.Challenge.cw_stepsbehind_k10_whole_levels_holds : PySem.Challenge.rw_stepsbehind_k10_whole_levels.Holds := by
  w_on; o_law; k_head; (case hw => w_witness2)
  k_fill
  refine Sb.walk_law (l := PySem.Challenge.rw_stepsbehind_k10_whole_levels) rfl rfl (fun w h Y => PySem.W.kIn_of Y) ?F
  case F =>
    intro w mg fa h KX G LA hmg
    refine' Sb.f_mk KX G hmg ?la ?ll ?lc ?lk (Sb.mg_mk KX G LA ?b_len ?b_all ?b_any ?b_sorted ?b_max ?b_min ?b_list ?b_tuple ?b_set ?b_isinstance ?b_range ?b_enumerate ?b_zip ?b_int ?b_bool ?b_str ?b_repr ?c_MOST_KIND ?c_MOST_STEPS ?c_MOST_WINDOW ?c_LOOSE ?c_AMONG ?c_STRICT ?c_ANY ?c_WHOLE ?c_EACH ?c_ALL ?c_FIRST)
      ⟨Sb.df_mk KX G ?a_is_integer ?l_is_integer ?d_is_integer ?k_is_integer (fun _ _ _ _ _ _ us hl => match us, hl with | [_, _, _], _ => rfl),
      Sb.df_mk KX G ?a_is_word ?l_is_word ?d_is_word ?k_is_word (fun _ _ _ _ _ _ us hl => match us, hl with | [_, _], _ => rfl),
      Sb.df_mk KX G ?a_are_kinds ?l_are_kinds ?d_are_kinds ?k_are_kinds (fun _ _ _ _ _ _ us hl => match us, hl with | [_], _ => rfl),
      Sb.df_mk KX G ?a_are_steps ?l_are_steps ?d_are_steps ?k_are_steps (fun _ _ _ _ _ _ us hl => match us, hl with | [_], _ => rfl),
      Sb.df_mk KX G ?a_wrong_place ?l_wrong_place ?d_wrong_place ?k_wrong_place (fun _ _ _ _ _ _ us hl => match us, hl with | [_], _ => rfl),
      Sb.df_mk KX G ?a_need_way ?l_need_way ?d_need_way ?k_need_way (fun _ _ _ _ _ _ us hl => match us, hl with | [_], _ => rfl),
      Sb.df_mk KX G ?a_steps_in ?l_steps_in ?d_steps_in ?k_steps_in (fun _ _ _ _ _ _ us hl => match us, hl with | [_, _], _ => rfl),
      Sb.df_mk KX G ?a_is_event ?l_is_event ?d_is_event ?k_is_event (fun _ _ _ _ _ _ us hl => match us, hl with | [_], _ => rfl),
      Sb.df_mk KX G ?a_need_log ?l_need_log ?d_need_log ?k_need_log (fun _ _ _ _ _ _ us hl => match us, hl with | [_], _ => rfl),
      Sb.df_mk KX G ?a_times_in ?l_times_in ?d_times_in ?k_times_in (fun _ _ _ _ _ _ us hl => match us, hl with | [_], _ => rfl),
      Sb.df_mk KX G ?a_first_in ?l_first_in ?d_first_in ?k_first_in (fun _ _ _ _ _ _ us hl => match us, hl with | [_], _ => rfl),
      Sb.df_mk KX G ?a_grown ?l_grown ?d_grown ?k_grown (fun _ _ _ _ _ _ us hl => match us, hl with | [_, _, _], _ => rfl),
      Sb.df_mk KX G ?a_came ?l_came ?d_came ?k_came (fun _ _ _ _ _ _ us hl => match us, hl with | [_, _, _, _], _ => rfl),
      Sb.df_mk KX G ?a_lesser ?l_lesser ?d_lesser ?k_lesser (fun _ _ _ _ _ _ us hl => match us, hl with | [_, _], _ => rfl),
      Sb.df_mk KX G ?a_behind_in ?l_behind_in ?d_behind_in ?k_behind_in (fun _ _ _ _ _ _ us hl => match us, hl with | [_, _, _], _ => rfl),
      Sb.df_mk KX G ?a_behind_all ?l_behind_all ?d_behind_all ?k_behind_all (fun _ _ _ _ _ _ us hl => match us, hl with | [_, _], _ => rfl),
      Sb.df_mk KX G ?a_standing_of ?l_standing_of ?d_standing_of ?k_standing_of (fun _ _ _ _ _ _ us hl => match us, hl with | [_, _], _ => rfl),
      Sb.df_mk KX G ?a_level ?l_level ?d_level ?k_level (fun _ _ _ _ _ _ us hl => match us, hl with | [_, _], _ => rfl),
      Sb.df_mk KX G ?a_is_row ?l_is_row ?d_is_row ?k_is_row (fun _ _ _ _ _ _ us hl => match us, hl with | [_, _], _ => rfl),
      Sb.df_mk KX G ?a_are_near ?l_are_near ?d_are_near ?k_are_near (fun _ _ _ _ _ _ us hl => match us, hl with | [_, _, _], _ => rfl),
      Sb.df_mk KX G ?a_is_any_chain ?l_is_any_chain ?d_is_any_chain ?k_is_any_chain (fun _ _ _ _ _ _ us hl => match us, hl with | [_, _, _], _ => rfl),
      Sb.df_mk KX G ?a_is_free ?l_is_free ?d_is_free ?k_is_free (fun _ _ _ _ _ _ us hl => match us, hl with | [_, _, _], _ => rfl),
      Sb.df_mk KX G ?a_is_chain_in ?l_is_chain_in ?d_is_chain_in ?k_is_chain_in (fun _ _ _ _ _ _ us hl => match us, hl with | [_, _, _], _ => rfl),
      Sb.df_mk KX G ?a_is_chain ?l_is_chain ?d_is_chain ?k_is_chain (fun _ _ _ _ _ _ us hl => match us, hl with | [_, _, _], _ => rfl),
      Sb.df_mk KX G ?a_longest_any ?l_longest_any ?d_longest_any ?k_longest_any (fun _ _ _ _ _ _ us hl => match us, hl with | [_, _], _ => rfl),
      Sb.df_mk KX G ?a_one_longer ?l_one_longer ?d_one_longer ?k_one_longer (fun _ _ _ _ _ _ us hl => match us, hl with | [_, _, _], _ => rfl),
      Sb.df_mk KX G ?a_chain ?l_chain ?d_chain ?k_chain (fun _ _ _ _ _ _ us hl => match us, hl with | [_, _], _ => rfl),
      Sb.df_mk KX G ?a_law_when ?l_law_when ?d_law_when ?k_law_when (fun _ _ _ _ _ _ us hl => match us, hl with | [_], _ => rfl),
      Sb.df_mk KX G ?a_law_is_of ?l_law_is_of ?d_law_is_of ?k_law_is_of (fun _ _ _ _ _ _ us hl => match us, hl with | [_, _], _ => rfl),
      Sb.df_mk KX G ?a_law_is_good ?l_law_is_good ?d_law_is_good ?k_law_is_good (fun _ _ _ _ _ _ us hl => match us, hl with | [_, _, _], _ => rfl),
      Sb.df_mk KX G ?a_law_chains ?l_law_chains ?d_law_chains ?k_law_chains (fun _ _ _ _ _ _ us hl => match us, hl with | [_, _], _ => rfl),
      Sb.df_mk KX G ?a_law_most_near ?l_law_most_near ?d_law_most_near ?k_law_most_near (fun _ _ _ _ _ _ us hl => match us, hl with | [_, _], _ => rfl),
      Sb.df_mk KX G ?a_law_level ?l_law_level ?d_law_level ?k_law_level (fun _ _ _ _ _ _ us hl => match us, hl with | [_, _], _ => rfl),
      Sb.df_mk KX G ?a_law_is_any ?l_law_is_any ?d_law_is_any ?k_law_is_any (fun _ _ _ _ _ _ us hl => match us, hl with | [_, _, _], _ => rfl),
      Sb.df_mk KX G ?a_law_chain_right ?l_law_chain_right ?d_law_chain_right ?k_law_chain_right (fun _ _ _ _ _ _ us hl => match us, hl with | [_, _, _], _ => rfl),
      Sb.df_mk KX G ?a_law_begun ?l_law_begun ?d_law_begun ?k_law_begun (fun _ _ _ _ _ _ us hl => match us, hl with | [_, _], _ => rfl),
      Sb.df_mk KX G ?a_law_draw ?l_law_draw ?d_law_draw ?k_law_draw (fun _ _ _ _ _ _ us hl => match us, hl with | [_, _], _ => rfl),
      Sb.df_mk KX G ?a_law_of ?l_law_of ?d_law_of ?k_law_of (fun _ _ _ _ _ _ us hl => match us, hl with | [_, _], _ => rfl),
      Sb.df_mk KX G ?a_law_some ?l_law_some ?d_law_some ?k_law_some (fun _ _ _ _ _ _ us hl => match us, hl with | [_, _, _], _ => rfl),
      Sb.df_mk KX G ?a_law_way ?l_law_way ?d_law_way ?k_law_way (fun _ _ _ _ _ _ us hl => match us, hl with | [_, _, _], _ => rfl),
      Sb.df_mk KX G ?a_law_log ?l_law_log ?d_law_log ?k_law_log (fun _ _ _ _ _ _ us hl => match us, hl with | [_, _, _], _ => rfl)⟩
    (case la => k_is)
    (case ll => k_is)
    (case lc => k_is)
    (case lk => k_is)
    (case b_len => k_is)
    (case b_all => k_is)
    (case b_any => k_is)
    (case b_sorted => k_is)
    (case b_max => k_is)
    (case b_min => k_is)
    (case b_list => k_is)
    (case b_tuple => k_is)
    (case b_set => k_is)
    (case b_isinstance => k_is)
    (case b_range => k_is)
    (case b_enumerate => k_is)
    (case b_zip => k_is)
    (case b_int => k_is)
    (case b_bool => k_is)
    (case b_str => k_is)
    (case b_repr => k_is)
    (case c_MOST_KIND => k_is)
    (case c_MOST_STEPS => k_is)
    (case c_MOST_WINDOW => k_is)
    (case c_LOOSE => k_is)
    (case c_AMONG => k_is)
    (case c_STRICT => k_is)
    (case c_ANY => k_is)
    (case c_WHOLE => k_is)
    (case c_EACH => k_is)
    (case c_ALL => k_is)
    (case c_FIRST => k_is)
    (case a_is_integer => k_is)
    (case l_is_integer => k_is)
    (case d_is_integer => k_is)
    (case k_is_integer => k_is)
    (case a_is_word => k_is)
    (case l_is_word => k_is)
    (case d_is_word => k_is)
    (case k_is_word => k_is)
    (case a_are_kinds => k_is)
    (case l_are_kinds => k_is)
    (case d_are_kinds => k_is)
    (case k_are_kinds => k_is)
    (case a_are_steps => k_is)
    (case l_are_steps => k_is)
    (case d_are_steps => k_is)
    (case k_are_steps => k_is)
    (case a_wrong_place => k_is)
    (case l_wrong_place => k_is)
    (case d_wrong_place => k_is)
    (case k_wrong_place => k_is)
    (case a_need_way => k_is)
    (case l_need_way => k_is)
    (case d_need_way => k_is)
    (case k_need_way => k_is)
    (case a_steps_in => k_is)
    (case l_steps_in => k_is)
    (case d_steps_in => k_is)
    (case k_steps_in => k_is)
    (case a_is_event => k_is)
    (case l_is_event => k_is)
    (case d_is_event => k_is)
    (case k_is_event => k_is)
    (case a_need_log => k_is)
    (case l_need_log => k_is)
    (case d_need_log => k_is)
    (case k_need_log => k_is)
    (case a_times_in => k_is)
    (case l_times_in => k_is)
    (case d_times_in => k_is)
    (case k_times_in => k_is)
    (case a_first_in => k_is)
    (case l_first_in => k_is)
    (case d_first_in => k_is)
    (case k_first_in => k_is)
    (case a_grown => k_is)
    (case l_grown => k_is)
    (case d_grown => k_is)
    (case k_grown => k_is)
    (case a_came => k_is)
    (case l_came => k_is)
    (case d_came => k_is)
    (case k_came => k_is)
    (case a_lesser => k_is)
    (case l_lesser => k_is)
    (case d_lesser => k_is)
    (case k_lesser => k_is)
    (case a_behind_in => k_is)
    (case l_behind_in => k_is)
    (case d_behind_in => k_is)
    (case k_behind_in => k_is)
    (case a_behind_all => k_is)
    (case l_behind_all => k_is)
    (case d_behind_all => k_is)
    (case k_behind_all => k_is)
    (case a_standing_of => k_is)
    (case l_standing_of => k_is)
    (case d_standing_of => k_is)
    (case k_standing_of => k_is)
    (case a_level => k_is)
    (case l_level => k_is)
    (case d_level => k_is)
    (case k_level => k_is)
    (case a_is_row => k_is)
    (case l_is_row => k_is)
    (case d_is_row => k_is)
    (case k_is_row => k_is)
    (case a_are_near => k_is)
    (case l_are_near => k_is)
    (case d_are_near => k_is)
    (case k_are_near => k_is)
    (case a_is_any_chain => k_is)
    (case l_is_any_chain => k_is)
    (case d_is_any_chain => k_is)
    (case k_is_any_chain => k_is)
    (case a_is_free => k_is)
    (case l_is_free => k_is)
    (case d_is_free => k_is)
    (case k_is_free => k_is)
    (case a_is_chain_in => k_is)
    (case l_is_chain_in => k_is)
    (case d_is_chain_in => k_is)
    (case k_is_chain_in => k_is)
    (case a_is_chain => k_is)
    (case l_is_chain => k_is)
    (case d_is_chain => k_is)
    (case k_is_chain => k_is)
    (case a_longest_any => k_is)
    (case l_longest_any => k_is)
    (case d_longest_any => k_is)
    (case k_longest_any => k_is)
    (case a_one_longer => k_is)
    (case l_one_longer => k_is)
    (case d_one_longer => k_is)
    (case k_one_longer => k_is)
    (case a_chain => k_is)
    (case l_chain => k_is)
    (case d_chain => k_is)
    (case k_chain => k_is)
    (case a_law_when => k_is)
    (case l_law_when => k_is)
    (case d_law_when => k_is)
    (case k_law_when => k_is)
    (case a_law_is_of => k_is)
    (case l_law_is_of => k_is)
    (case d_law_is_of => k_is)
    (case k_law_is_of => k_is)
    (case a_law_is_good => k_is)
    (case l_law_is_good => k_is)
    (case d_law_is_good => k_is)
    (case k_law_is_good => k_is)
    (case a_law_chains => k_is)
    (case l_law_chains => k_is)
    (case d_law_chains => k_is)
    (case k_law_chains => k_is)
    (case a_law_most_near => k_is)
    (case l_law_most_near => k_is)
    (case d_law_most_near => k_is)
    (case k_law_most_near => k_is)
    (case a_law_level => k_is)
    (case l_law_level => k_is)
    (case d_law_level => k_is)
    (case k_law_level => k_is)
    (case a_law_is_any => k_is)
    (case l_law_is_any => k_is)
    (case d_law_is_any => k_is)
    (case k_law_is_any => k_is)
    (case a_law_chain_right => k_is)
    (case l_law_chain_right => k_is)
    (case d_law_chain_right => k_is)
    (case k_law_chain_right => k_is)
    (case a_law_begun => k_is)
    (case l_law_begun => k_is)
    (case d_law_begun => k_is)
    (case k_law_begun => k_is)
    (case a_law_draw => k_is)
    (case l_law_draw => k_is)
    (case d_law_draw => k_is)
    (case k_law_draw => k_is)
    (case a_law_of => k_is)
    (case l_law_of => k_is)
    (case d_law_of => k_is)
    (case k_law_of => k_is)
    (case a_law_some => k_is)
    (case l_law_some => k_is)
    (case d_law_some => k_is)
    (case k_law_some => k_is)
    (case a_law_way => k_is)
    (case l_law_way => k_is)
    (case d_law_way => k_is)
    (case k_law_way => k_is)
    (case a_law_log => k_is)
    (case l_law_log => k_is)
    (case d_law_log => k_is)
    (case k_law_log => k_is)
#print axioms PySem.Challenge.cw_stepsbehind_k10_whole_levels_holds
