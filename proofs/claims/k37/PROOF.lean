import PyProof.Rows.All
import Wide.All
import OpenK.AllK
import Wide.FinOn
import HandS.ForMost
import HandS.Deep
import HandS.IsInst
import HandS.TupAny
import HandS.Style
import HandS.Wide
import HandS.WideBits
import HandS.Flow
import HandS.Lambda
import HandS.SortKw
import KE.SortKeyHeap
import KE.KDictKeyed
import KE.KeyNested
import KE.KDictCopyH
import KE.KDictWalk
import KE.KDictList
import KE.GoesComp
import KE.GoesMore
import HandS.EndTab
import KE.KNestM
import PySem.Challenge.RW_nestdeep_k37_least_sets
set_option Elab.async false
set_option linter.all false
set_option maxRecDepth 100000
/-! D-layer, part a: data that values denote, views of the heap, the pot (one list of two whole numbers that draws change), slots. -/
namespace DL
open PySem L2

/-- what stands in the pot -/
abbrev Pt := Int × Int
/-- the datum that stands for the pot itself -/
def potD : PyData := .dict [(.none, .none), (.none, .none)]

theorem same_l {G H : Hp} {a : Addr} {xs : List V} (e : Same G H) (h : Rd G a (.lst xs)) : Rd H a (.lst xs) := by
  rcases h with h | ⟨o, h⟩
  · exact .inl (e _ _ h)
  · exact .inr ⟨o, e _ _ h⟩
theorem same_t {K : PySem.W.Frag} {G H : Hp} {a : Addr} {xs : List V} (e : Same G H) (h : SqT K G a xs) : SqT K H a xs := by
  rcases h with (h | ⟨o, h⟩) | h
  · exact .inl (.inl (e _ _ h))
  · exact .inl (.inr ⟨o, e _ _ h⟩)
  · exact .inr h
theorem same_new {H : Hp} {p : Addr} {o : HO} (h : H p = none) : Same H (upd H p o) := fun b x e => by
  rw [upd_ne (ne_of_none e h)]
  exact e

mutual
/-- the value v denotes the datum d, in the view G of the heap -/
inductive Rv (K : PySem.W.Frag) (pp : Option Addr) (G : Hp) : V → PyData → Prop
  | non : Rv K pp G .non .none
  | bl (b : Bool) : Rv K pp G (.bl b) (.bool b)
  | int (i : Int) : Rv K pp G (.int i) (.int i)
  | str (x : Str) : Rv K pp G (.str x) (.str x)
  | lst {a : Addr} {xs : List V} {ds : List PyData} : Rd G a (.lst xs) → RvL K pp G xs ds → Rv K pp G (.ref a) (.list ds)
  | tup {a : Addr} {xs : List V} {ds : List PyData} : SqT K G a xs → RvL K pp G xs ds → Rv K pp G (.ref a) (.tuple ds)
  | pot {a : Addr} : pp = some a → Rv K pp G (.ref a) potD
inductive RvL (K : PySem.W.Frag) (pp : Option Addr) (G : Hp) : List V → List PyData → Prop
  | nil : RvL K pp G [] []
  | cons {v : V} {vs : List V} {d : PyData} {ds : List PyData} : Rv K pp G v d → RvL K pp G vs ds → RvL K pp G (v :: vs) (d :: ds)
end

section
variable {K : PySem.W.Frag} {pp : Option Addr} {G G' H : Hp}
mutual
theorem Rv.mono (e : Same G G') : ∀ (d : PyData) (v : V), Rv K pp G v d → Rv K pp G' v d
  | .none, _, h => by cases h; exact .non
  | .bool b, _, h => by cases h; exact .bl b
  | .int i, _, h => by cases h; exact .int i
  | .str x, _, h => by cases h; exact .str x
  | .list ds, _, h => by
    cases h with
    | lst hs ha => exact .lst (same_l e hs) (RvL.mono e ds _ ha)
  | .tuple ds, _, h => by
    cases h with
    | tup hs ha => exact .tup (same_t e hs) (RvL.mono e ds _ ha)
  | .dict kvs, _, h => by
    cases h with
    | pot q => exact .pot q
theorem RvL.mono (e : Same G G') : ∀ (ds : List PyData) (vs : List V), RvL K pp G vs ds → RvL K pp G' vs ds
  | [], _, h => by cases h; exact .nil
  | d :: ds, _, h => by
    cases h with
    | cons a b => exact .cons (Rv.mono e d _ a) (RvL.mono e ds _ b)
end
mutual
theorem Rv.dp (e : Same G H) : ∀ (d : PyData) (v : V), Rv K pp G v d → d.canLay0 = true → Dp K H v d
  | .none, _, h, _ => by cases h; exact .non
  | .bool b, _, h, _ => by cases h; exact .bl b
  | .int i, _, h, _ => by cases h; exact .int i
  | .str x, _, h, _ => by cases h; exact .str x
  | .list ds, _, h, c => by
    cases h with
    | lst hs ha => exact .lst (.inl (same_l e hs)) (RvL.dp e ds _ ha (by simpa only [PyData.canLay0] using c))
  | .tuple ds, _, h, c => by
    cases h with
    | tup hs ha => exact .tup (same_t e hs) (RvL.dp e ds _ ha (by simpa only [PyData.canLay0] using c))
  | .dict kvs, _, h, c => by simp [PyData.canLay0] at c
theorem RvL.dp (e : Same G H) : ∀ (ds : List PyData) (vs : List V), RvL K pp G vs ds → PyData.canLayAll0 ds = true → DpAll K H vs ds
  | [], _, h, _ => by cases h; exact .nil
  | d :: ds, _, h, c => by
    have c' : d.canLay0 = true ∧ PyData.canLayAll0 ds = true := by
      simpa only [PyData.canLayAll0, Bool.and_eq_true] using c
    cases h with
    | cons a b => exact .cons (Rv.dp e d _ a c'.1) (RvL.dp e ds _ b c'.2)
end
theorem RvL.length : ∀ {vs : List V} {ds : List PyData}, RvL K pp G vs ds → vs.length = ds.length
  | _, _, .nil => rfl
  | _, _, .cons _ t => congrArg (· + 1) t.length
theorem RvL.get : ∀ {vs : List V} {ds : List PyData} {i : Nat} {d : PyData}, RvL K pp G vs ds → ds[i]? = some d → ∃ v, vs[i]? = some v ∧ Rv K pp G v d
  | _, _, _, _, .nil, e => by simp at e
  | _, _, 0, _, .cons r _, e => by
    have e' := Option.some.inj (show some _ = some _ from e)
    subst e'
    exact ⟨_, rfl, r⟩
  | _, _, i + 1, d, .cons _ t, e => by
    obtain ⟨v, h1, h2⟩ := RvL.get (i := i) (d := d) t (by simpa using e)
    exact ⟨v, by simpa using h1, h2⟩
theorem RvL.app : ∀ {vs ws : List V} {ds es : List PyData}, RvL K pp G vs ds → RvL K pp G ws es → RvL K pp G (vs ++ ws) (ds ++ es)
  | _, _, _, _, .nil, s => s
  | _, _, _, _, .cons r t, s => .cons r (RvL.app t s)
theorem RvL.take : ∀ {vs : List V} {ds : List PyData} (n : Nat), RvL K pp G vs ds → RvL K pp G (vs.take n) (ds.take n)
  | _, _, 0, _ => .nil
  | _, _, _ + 1, .nil => .nil
  | _, _, n + 1, .cons r t => .cons r (RvL.take n t)
theorem RvL.drop : ∀ {vs : List V} {ds : List PyData} (n : Nat), RvL K pp G vs ds → RvL K pp G (vs.drop n) (ds.drop n)
  | _, _, 0, r => r
  | _, _, _ + 1, .nil => .nil
  | _, _, n + 1, .cons _ t => RvL.drop n t
theorem RvL.rev : ∀ {vs : List V} {ds : List PyData}, RvL K pp G vs ds → RvL K pp G vs.reverse ds.reverse
  | _, _, .nil => .nil
  | _, _, .cons r t => by
    rw [List.reverse_cons, List.reverse_cons]
    exact RvL.app (RvL.rev t) (.cons r .nil)
theorem rv_int {v : V} {i : Int} (h : Rv K pp G v (.int i)) : v = .int i := by cases h; rfl
theorem rv_bl {v : V} {b : Bool} (h : Rv K pp G v (.bool b)) : v = .bl b := by cases h; rfl
theorem rv_str {v : V} {x : Str} (h : Rv K pp G v (.str x)) : v = .str x := by cases h; rfl
theorem rv_non {v : V} (h : Rv K pp G v .none) : v = .non := by cases h; rfl
theorem rv_lst {v : V} {ds : List PyData} (h : Rv K pp G v (.list ds)) : ∃ a xs, v = .ref a ∧ Rd G a (.lst xs) ∧ RvL K pp G xs ds := by
  cases h with
  | lst a b => exact ⟨_, _, rfl, a, b⟩
theorem rv_tup {v : V} {ds : List PyData} (h : Rv K pp G v (.tuple ds)) : ∃ a xs, v = .ref a ∧ SqT K G a xs ∧ RvL K pp G xs ds := by
  cases h with
  | tup a b => exact ⟨_, _, rfl, a, b⟩
end

/-! ### where one stands -/
/-- the tables of code objects that lambdas need -/
class TBL where
  T : List (Addr × Str)
/-- no table -/
def NT (o : HO) : Prop := ∀ ps, o ≠ .tbl ps
theorem nt_lst {xs : List V} : NT (.lst xs) := fun _ z => by cases z
theorem nt_tup {xs : List V} : NT (.tup xs) := fun _ z => by cases z
theorem nt_ext {φ : Heap → Prop} : NT (.ext φ) := fun _ z => by cases z
theorem tab_upd {T : List (Addr × Str)} {H : Hp} {p : Addr} {xs : List V} {o : HO} (h : H p = some (.lst xs)) (t : LamX.Tabs T H) : LamX.Tabs T (upd H p o) := fun q hq => by
  obtain ⟨ps, h1, h2, h3⟩ := t q hq
  refine ⟨ps, ?_, h2, fun pos cv hc => ?_⟩
  · rw [upd_ne (ne_of h1 h (fun z => by cases z))]
    exact h1
  · obtain ⟨c, e1, e2⟩ := h3 pos cv hc
    refine ⟨c, e1, ?_⟩
    rw [upd_ne (ne_of e2 h (fun z => by unfold LamX.CodeO at z; cases z))]
    exact e2
section
variable [TBL]
def OT (H : Hp) : Prop := ∀ b ps, H b = some (.tbl ps) → ∃ q, (b, q) ∈ TBL.T
def VT (G : Hp) : Prop := ∀ b ps, G b ≠ some (.tbl ps)
theorem ot_upd {H : Hp} {p : Addr} {o : HO} (nt : NT o) (h : OT H) : OT (upd H p o) := fun b ps e => by
  by_cases hb : b = p
  · subst hb
    rw [upd_same] at e
    exact absurd (Option.some.inj e) (nt ps)
  · rw [upd_ne hb] at e
    exact h b ps e
theorem vt_upd {G : Hp} {p : Addr} {o : HO} (nt : NT o) (h : VT G) : VT (upd G p o) := fun b ps e => by
  by_cases hb : b = p
  · subst hb
    rw [upd_same] at e
    exact absurd (Option.some.inj e) (nt ps)
  · rw [upd_ne hb] at e
    exact h b ps e
/-- the view lies in the heap; the pot stands beside the view -/
structure Cf (pp : Option Addr) (ps : Pt) (G H : Hp) : Prop where
  ex : Same G H
  pot : ∀ a, pp = some a → G a = none ∧ H a = some (.lst [.int ps.1, .int ps.2])
  tb : LamX.Tabs TBL.T H
  vt : VT G
  ot : OT H
/-- from one state to a later one: the view has grown by new objects alone; all that stood stands, but the pot and what is owned (ow) -/
structure Go (pp : Option Addr) (ps' : Pt) (ow : List Addr) (G H G' H' : Hp) : Prop where
  gg : Same G G'
  cf : Cf pp ps' G' H'
  fresh : ∀ b o, G' b = some o → G b = none → H b = none
  keep : ∀ b o, H b = some o → pp ≠ some b → b ∉ ow → NT o → H' b = some o
  there : ∀ b, H' b = none → H b = none
section
variable {pp : Option Addr} {ps ps1 ps2 : Pt} {ow : List Addr} {G H G1 H1 G2 H2 : Hp}
theorem Go.refl (c : Cf pp ps G H) : Go pp ps ow G H G H := ⟨Same.refl G, c, fun b o h n => absurd (n.symm.trans h) (by simp), fun _ _ h _ _ _ => h, fun _ h => h⟩
/-- what stood is still there, in some form -/
theorem Go.none_of (g : Go pp ps1 [] G H G1 H1) {b : Addr} (h : H1 b = none) : H b = none := g.there b h
theorem Go.trans (a : Go pp ps1 [] G H G1 H1) (b : Go pp ps2 [] G1 H1 G2 H2) : Go pp ps2 [] G H G2 H2 where
  gg := a.gg.trans b.gg
  cf := b.cf
  fresh := fun c o h n => by
    cases q : G1 c with
    | none => exact a.none_of (b.fresh c o h q)
    | some u => exact a.fresh c u q n
  keep := fun c o h hp ho nt => b.keep c o (a.keep c o h hp ho nt) hp ho nt
  there := fun c h => a.there c (b.there c h)
theorem Go.mono {ow' : List Addr} (g : Go pp ps1 ow G H G1 H1) (h : ∀ b ∈ ow, b ∈ ow') : Go pp ps1 ow' G H G1 H1 := ⟨g.gg, g.cf, g.fresh, fun b o x y z nt => g.keep b o x y (fun m => z (h b m)) nt, g.there⟩
/-- a new object that is put into the view -/
theorem Go.lay {p : Addr} {o : HO} (c : Cf pp ps G H) (h : H p = none) (nt : NT o := by first | exact nt_lst | exact nt_tup | exact nt_ext) : Go pp ps ow G H (upd G p o) (upd H p o) := by
  have hg : G p = none := c.ex.free h
  refine ⟨same_new hg, ⟨fun b x e => ?_, fun a ha => ?_, c.tb.ext (same_new h), vt_upd nt c.vt, ot_upd nt c.ot⟩, fun b x e n => ?_, fun b x e _ _ _ => same_new h b x e, fun b e => (same_new h).free e⟩
  · by_cases hb : b = p
    · subst hb
      rw [upd_same] at e ⊢
      exact e
    · rw [upd_ne hb] at e ⊢
      exact c.ex b x e
  · have hne : a ≠ p := fun z => by
      subst z
      rw [(c.pot a ha).2] at h
      cases h
    rw [upd_ne hne, upd_ne hne]
    exact c.pot a ha
  · by_cases hb : b = p
    · subst hb
      exact h
    · rw [upd_ne hb, n] at e
      cases e
/-- a new object that is not put into the view -/
theorem Go.hide {p : Addr} {o : HO} (c : Cf pp ps G H) (h : H p = none) (nt : NT o := by first | exact nt_lst | exact nt_tup | exact nt_ext) : Go pp ps ow G H G (upd H p o) := by
  refine ⟨Same.refl G, ⟨c.ex.trans (same_new h), fun a ha => ⟨(c.pot a ha).1, same_new h a _ (c.pot a ha).2⟩, c.tb.ext (same_new h), c.vt, ot_upd nt c.ot⟩, fun b x e n => absurd (n.symm.trans e) (by simp), fun b x e _ _ _ => same_new h b x e, fun b e => (same_new h).free e⟩
end
end

/-! ### slots -/
/-- what a name holds: nothing that is known, a datum, or a list that is the def's own to change -/
inductive SV where
  | un
  | dat (d : PyData)
  | own (ds : List PyData)
abbrev Sd := List SV
def SlOk (K : PySem.W.Frag) (pp : Option Addr) (G H : Hp) : SV → Option V → Prop
  | .un, _ => True
  | .dat d, o => ∃ v, o = some v ∧ Rv K pp G v d
  | .own ds, o => ∃ p vs, o = some (.ref p) ∧ H p = some (.lst vs) ∧ G p = none ∧ pp ≠ some p ∧ RvL K pp G vs ds
/-- the address p is that of an own list -/
def Owned (S : Sd) (σ : L2.St) (p : Addr) : Prop := ∃ (i : Nat) (ds : List PyData), S[i]? = some (SV.own ds) ∧ σ[i]? = some (some (V.ref p))
structure Sl (K : PySem.W.Frag) (pp : Option Addr) (G H : Hp) (S : Sd) (σ : L2.St) : Prop where
  len : S.length = σ.length
  each : ∀ (i : Nat) (sv : SV), S[i]? = some sv → ∃ o, σ[i]? = some o ∧ SlOk K pp G H sv o
  apart : ∀ (i j : Nat) (ds es : List PyData) (p : Addr), S[i]? = some (.own ds) → S[j]? = some (.own es) → σ[i]? = some (some (.ref p)) → σ[j]? = some (some (.ref p)) → i = j
section
variable {K : PySem.W.Frag} {pp : Option Addr} {ps ps1 : Pt} {G H G1 H1 : Hp} {S : Sd} {σ : L2.St}
/-- behind an expression the names hold what they held -/
theorem Sl.go [TBL] (s : Sl K pp G H S σ) (g : Go pp ps1 [] G H G1 H1) : Sl K pp G1 H1 S σ := by
  refine ⟨s.len, fun i sv e => ?_, s.apart⟩
  obtain ⟨o, h1, h2⟩ := s.each i sv e
  refine ⟨o, h1, ?_⟩
  cases sv with
  | un => trivial
  | dat d =>
    obtain ⟨v, rfl, r⟩ := h2
    exact ⟨v, rfl, Rv.mono g.gg d v r⟩
  | own ds =>
    obtain ⟨p, vs, rfl, hp, gp, np, r⟩ := h2
    refine ⟨p, vs, rfl, g.keep p _ hp np (by simp) nt_lst, ?_, np, RvL.mono g.gg ds vs r⟩
    cases q : G1 p with
    | none => rfl
    | some u =>
      have := g.fresh p u q gp
      rw [hp] at this
      cases this
end
end DL

set_option Elab.async false
set_option linter.all false
set_option maxRecDepth 100000
/-! D-layer, part b: expressions. A judgement PD X e g: the expression e computes the datum that g says, of the data in the slots, and turns the pot as g says. -/
namespace DL
open PySem L2
variable [TBL]

abbrev EG := Sd → Pt → Option (PyData × Pt)
abbrev AG := Sd → Pt → Option (List PyData × Pt)
abbrev BG := Sd → Pt → Option (Bool × Pt)
def bindP {α β : Type} (r : Option (α × Pt)) (k : α → Pt → Option (β × Pt)) : Option (β × Pt) := match r with
  | some (a, p) => k a p
  | none => none
@[simp] theorem bindP_some {α β : Type} (a : α) (p : Pt) (k : α → Pt → Option (β × Pt)) : bindP (some (a, p)) k = k a p := rfl
@[simp] theorem bindP_none {α β : Type} (k : α → Pt → Option (β × Pt)) : bindP none k = none := rfl
theorem bindP_inv {α β : Type} {r : Option (α × Pt)} {k : α → Pt → Option (β × Pt)} {z : β × Pt} (h : bindP r k = some z) : ∃ a p, r = some (a, p) ∧ k a p = some z := by
  cases r with
  | none => cases h
  | some x => exact ⟨x.1, x.2, rfl, h⟩

def TD (K : PySem.W.Frag) (g : EG) : TE := fun σ H Q => ∃ (pp : Option Addr) (ps : Pt) (G : Hp) (S : Sd) (d : PyData) (ps' : Pt), Cf pp ps G H ∧ Sl K pp G H S σ ∧ g S ps = some (d, ps') ∧
  ∀ v G' H', Go pp ps' [] G H G' H' → Rv K pp G' v d → Q v H'
def TDT (K : PySem.W.Frag) (g : BG) : TT := fun σ H Q => ∃ (pp : Option Addr) (ps : Pt) (G : Hp) (S : Sd) (b : Bool) (ps' : Pt), Cf pp ps G H ∧ Sl K pp G H S σ ∧ g S ps = some (b, ps') ∧
  ∀ G' H', Go pp ps' [] G H G' H' → Q b H'
def TDA (K : PySem.W.Frag) (g : AG) : TA := fun σ H Q => ∃ (pp : Option Addr) (ps : Pt) (G : Hp) (S : Sd) (ds : List PyData) (ps' : Pt), Cf pp ps G H ∧ Sl K pp G H S σ ∧ g S ps = some (ds, ps') ∧
  ∀ vs G' H', Go pp ps' [] G H G' H' → RvL K pp G' vs ds → Q vs H'
/-- two values to one, by data -/
def rD2 (K : PySem.W.Frag) (o : PyData → PyData → Option PyData) : R2 := fun v w H Q => ∃ (pp : Option Addr) (ps : Pt) (G : Hp) (x y d : PyData), Cf pp ps G H ∧ Rv K pp G v x ∧ Rv K pp G w y ∧ o x y = some d ∧
  ∀ z G' H', Go pp ps [] G H G' H' → Rv K pp G' z d → Q z H'
def rD1 (K : PySem.W.Frag) (o : PyData → Option PyData) : V → Hp → VK → Prop := fun v H Q => ∃ (pp : Option Addr) (ps : Pt) (G : Hp) (x d : PyData), Cf pp ps G H ∧ Rv K pp G v x ∧ o x = some d ∧
  ∀ z G' H', Go pp ps [] G H G' H' → Rv K pp G' z d → Q z H'
def rDL (K : PySem.W.Frag) (o : List PyData → Option PyData) : List V → Hp → VK → Prop := fun vs H Q => ∃ (pp : Option Addr) (ps : Pt) (G : Hp) (xs : List PyData) (d : PyData), Cf pp ps G H ∧ RvL K pp G vs xs ∧ o xs = some d ∧
  ∀ z G' H', Go pp ps [] G H G' H' → Rv K pp G' z d → Q z H'

abbrev PD (X : Cx) (e : Expr) (g : EG) : Prop := PE X e (TD X.K g)
abbrev PDT (X : Cx) (e : Expr) (g : BG) : Prop := PT X e (TDT X.K g)
abbrev PDW (X : Cx) (e : Expr) (g : BG) : Prop := PW X e (TDT X.K g)
abbrev PDA (X : Cx) (es : List Expr) (g : AG) : Prop := PA X es (TDA X.K g)

section
variable {X : Cx}
theorem pe_imp {e : Expr} {t t' : TE} (h : PE X e t) (i : ∀ σ H Q, t' σ H Q → t σ H Q) : PE X e t' := ⟨fun pins s σ H Q I q => h.run pins s σ H Q I (i σ H Q q)⟩
theorem pt_imp {e : Expr} {t t' : TT} (h : PT X e t) (i : ∀ σ H Q, t' σ H Q → t σ H Q) : PT X e t' := ⟨fun pins s σ H Q I q => h.run pins s σ H Q I (i σ H Q q)⟩
theorem pw_imp {e : Expr} {t t' : TT} (h : PW X e t) (i : ∀ σ H Q, t' σ H Q → t σ H Q) : PW X e t' := ⟨fun wh pins s σ H Q I q => h.run wh pins s σ H Q I (i σ H Q q)⟩
theorem pa_imp {es : List Expr} {t t' : TA} (h : PA X es t) (i : ∀ σ H Q, t' σ H Q → t σ H Q) : PA X es t' := ⟨fun pos pins s σ H Q I q => h.run pos pins s σ H Q I (i σ H Q q)⟩

/-! ### names, constants -/
def eVar (i : Nat) : EG := fun S ps => match S[i]? with
  | some (.dat d) => some (d, ps)
  | _ => none
theorem eVar_inv {i : Nat} {S : Sd} {ps ps' : Pt} {d : PyData} (h : eVar i S ps = some (d, ps')) : S[i]? = some (.dat d) ∧ ps' = ps := by
  unfold eVar at h
  split at h
  · next d' e =>
    cases h
    exact ⟨e, rfl⟩
  · cases h
theorem pd_var (i : Nat) {x : Str} {pos : Pos} (hN : X.N[i]? = some x := by rfl) (hv : Vis X.env.scope x := by first | exact Or.inl rfl | exact Or.inr (Or.inl rfl) | exact Or.inr (Or.inr rfl))
    (hd : (x == ("__debug__" : Str)) = false := by decide) (hcd : (x == ("__classdict__" : Str)) = false := by decide) : PD X (.Name x pos) (eVar i) :=
  pe_imp (pe_var hN hv hd hcd) fun σ H Q ⟨pp, ps, G, S, d, ps', c, s, e, k⟩ => by
    obtain ⟨e1, rfl⟩ := eVar_inv e
    obtain ⟨o, h1, v, rfl, r⟩ := s.each i _ e1
    exact ⟨v, h1, k v G H (Go.refl c) r⟩
/-- an own list, read as a value for a moment: the view has it then -/
def eC (d : PyData) : EG := fun _ ps => some (d, ps)
theorem pd_c {e : Expr} {v : V} {d : PyData} (h : PE X e (tC v)) (r : ∀ pp G, Rv X.K pp G v d) : PD X e (eC d) := pe_imp h fun σ H Q ⟨pp, ps, G, S, d', ps', c, s, e, k⟩ => by
  cases e
  exact k v G H (Go.refl c) (r pp G)
theorem pd_int {i : Int} {j : Nat} {pos : Pos} : PD X (.Constant (.int i) j pos) (eC (.int i)) := pd_c pe_int fun _ _ => .int i
theorem pd_str {x : Str} {j : Nat} {pos : Pos} : PD X (.Constant (.str x) j pos) (eC (.str x)) := pd_c pe_str fun _ _ => .str x
theorem pd_bl {b : Bool} {j : Nat} {pos : Pos} : PD X (.Constant (.bool b) j pos) (eC (.bool b)) := pd_c pe_bl fun _ _ => .bl b
theorem pd_non {j : Nat} {pos : Pos} : PD X (.Constant .none j pos) (eC .none) := pd_c pe_non fun _ _ => .non

/-! ### argument lists, tuples, lists -/
def aNil : AG := fun _ ps => some ([], ps)
def aCons (g : EG) (gs : AG) : AG := fun S ps => bindP (g S ps) fun d p => bindP (gs S p) fun ds p' => some (d :: ds, p')
theorem pda_nil : PDA X [] aNil := pa_imp pa_nil fun σ H Q ⟨pp, ps, G, S, d, ps', c, s, e, k⟩ => by
  cases e
  exact k [] G H (Go.refl c) .nil
theorem pda_cons {e : Expr} {es : List Expr} {g : EG} {gs : AG} (h : PD X e g) (hs : PDA X es gs) (hst : starEach (e :: es) X.env = (false, eval e X.env) :: starEach es X.env := by rfl) : PDA X (e :: es) (aCons g gs) :=
  pa_imp (pa_cons h hs hst) fun σ H Q ⟨pp, ps, G, S, d, ps', c, s, e, k⟩ => by
    obtain ⟨d1, p1, e1, e⟩ := bindP_inv e
    obtain ⟨d2, p2, e2, e⟩ := bindP_inv e
    cases e
    exact ⟨pp, ps, G, S, d1, p1, c, s, e1, fun v G1 H1 g1 r1 => ⟨pp, p1, G1, S, d2, _, g1.cf, s.go g1, e2, fun vs G2 H2 g2 r2 => k _ G2 H2 (g1.trans g2) (.cons (Rv.mono g2.gg _ _ r1) r2)⟩⟩
def fitsL (ds : List PyData) : Bool := decide (ds.length ≤ 16777216)
theorem fits_size {ds : List PyData} (h : fitsL ds = true) : ds.length ≤ sizeLine := by
  have h1 : ds.length ≤ 16777216 := of_decide_eq_true h
  rw [sizeLine_eq]
  exact h1
def eTup (gs : AG) : EG := fun S ps => bindP (gs S ps) fun ds p => if fitsL ds then some (.tuple ds, p) else none
def eLst (gs : AG) : EG := fun S ps => bindP (gs S ps) fun ds p => if fitsL ds then some (.list ds, p) else none
theorem ite_inv {α : Type} {b : Bool} {x z : α} (h : (if b = true then some x else none) = some z) : b = true ∧ x = z := by
  cases b with
  | true => exact ⟨rfl, Option.some.inj h⟩
  | false => cases h
theorem pd_tup {es : List Expr} {gs : AG} {x1 : Nat} {pos : Pos} (h : PDA X es gs) : PD X (.Tuple es x1 pos) (eTup gs) := pe_imp (pe_tup h) fun σ H Q ⟨pp, ps, G, S, d, ps', c, s, e, k⟩ => by
  obtain ⟨ds, p1, e1, e⟩ := bindP_inv e
  obtain ⟨hf, e⟩ := ite_inv e
  cases e
  refine ⟨pp, ps, G, S, ds, ps', c, s, e1, fun vs G1 H1 g1 r1 => ⟨by rw [r1.length]; exact fits_size hf, fun p hp => ?_⟩⟩
  have gl : Go pp ps' [] G1 H1 (upd G1 p (.tup vs)) (upd H1 p (.tup vs)) := Go.lay g1.cf hp
  exact k _ _ _ (g1.trans gl) (.tup (.inl (.inl upd_same)) (RvL.mono gl.gg _ _ r1))
theorem pd_lst {es : List Expr} {gs : AG} {pos : Pos} (h : PDA X es gs) : PD X (.List es pos) (eLst gs) := pe_imp (pe_lst h) fun σ H Q ⟨pp, ps, G, S, d, ps', c, s, e, k⟩ => by
  obtain ⟨ds, p1, e1, e⟩ := bindP_inv e
  obtain ⟨hf, e⟩ := ite_inv e
  cases e
  refine ⟨pp, ps, G, S, ds, ps', c, s, e1, fun vs G1 H1 g1 r1 => ⟨by rw [r1.length]; exact fits_size hf, fun p hp => ?_⟩⟩
  have gl : Go pp ps' [] G1 H1 (upd G1 p (.lst vs)) (upd H1 p (.lst vs)) := Go.lay g1.cf hp
  exact k _ _ _ (g1.trans gl) (.lst (.inl upd_same) (RvL.mono gl.gg _ _ r1))

/-! ### operators, comparisons, subscripts -/
def eOp (o : PyData → PyData → Option PyData) (ga gb : EG) : EG := fun S ps => bindP (ga S ps) fun x p => bindP (gb S p) fun y p' => (o x y).map fun d => (d, p')
theorem map_inv {α β : Type} {r : Option α} {f : α → β} {z : β} (h : r.map f = some z) : ∃ a, r = some a ∧ f a = z := by
  cases r with
  | none => cases h
  | some a => exact ⟨a, rfl, Option.some.inj h⟩
theorem tOp_D {o : PyData → PyData → Option PyData} {ga gb : EG} (σ : L2.St) (H : Hp) (Q : VK) (h : TD X.K (eOp o ga gb) σ H Q) : tOp (rD2 X.K o) (TD X.K ga) (TD X.K gb) σ H Q := by
  obtain ⟨pp, ps, G, S, d, ps', c, s, e, k⟩ := h
  obtain ⟨x, p1, e1, e⟩ := bindP_inv e
  obtain ⟨y, p2, e2, e⟩ := bindP_inv e
  obtain ⟨d', e3, e⟩ := map_inv e
  cases e
  exact ⟨pp, ps, G, S, x, p1, c, s, e1, fun v G1 H1 g1 r1 => ⟨pp, p1, G1, S, y, _, g1.cf, s.go g1, e2, fun w G2 H2 g2 r2 => ⟨pp, _, G2, x, y, d, g2.cf, Rv.mono g2.gg _ _ r1, r2, e3, fun z G3 H3 g3 r3 => k z G3 H3 ((g1.trans g2).trans g3) r3⟩⟩⟩
abbrev OpD (X : Cx) (f : Value → Value → Sem Value) (o : PyData → PyData → Option PyData) : Prop := OpR X f (rD2 X.K o)
theorem pd_op {a b : Expr} {op : Operator} {ga gb : EG} {pos : Pos} {o : PyData → PyData → Option PyData} (ho : OpD X (binaryOp op) o) (ha : PD X a ga) (hb : PD X b gb) : PD X (.BinOp a op b pos) (eOp o ga gb) :=
  pe_imp (pe_op ho ha hb) tOp_D
theorem pd_cmp {a b : Expr} {op : CmpOp} {ga gb : EG} {pos : Pos} {o : PyData → PyData → Option PyData} (ho : OpD X (compareOp op) o) (ha : PD X a ga) (hb : PD X b gb) (hm : behindInMarks op b = false) : PD X (.Compare a [op] [b] pos) (eOp o ga gb) :=
  pe_imp (pe_cmpR ho ha hb hm) tOp_D
theorem pd_ix {a b : Expr} {ga gb : EG} {pos : Pos} {o : PyData → PyData → Option PyData} (ho : IxR X (rD2 X.K o)) (hs : PlainIx b) (ha : PD X a ga) (hb : PD X b gb) : PD X (.Subscript a b pos) (eOp o ga gb) :=
  pe_imp (pe_ix ho ha hb hs) tOp_D
def eUn (o : PyData → Option PyData) (g : EG) : EG := fun S ps => bindP (g S ps) fun x p => (o x).map fun d => (d, p)

/-! ### tests -/
def asB (g : EG) : BG := fun S ps => match g S ps with
  | some (.bool b, p) => some (b, p)
  | _ => none
theorem asB_inv {g : EG} {S : Sd} {ps ps' : Pt} {b : Bool} (h : asB g S ps = some (b, ps')) : g S ps = some (.bool b, ps') := by
  unfold asB at h
  split at h
  · next b' p e =>
    cases h
    exact e
  · cases h
theorem pdt_val {e : Expr} {g : EG} (h : PD X e g) (he : ∀ whole, isTrue e X.env whole = (do let v ← whole; standAt e.pos; holding [v] (truthy v)) := by intro _; rfl) : PDT X e (asB g) :=
  pt_imp (pt_val h he) fun σ H Q ⟨pp, ps, G, S, b, ps', c, s, e, k⟩ => ⟨pp, ps, G, S, _, ps', c, s, asB_inv e, fun v G' H' g' r => ⟨b, rv_bl r, k G' H' g'⟩⟩
theorem pdt_cmp {a b : Expr} {op : CmpOp} {ga gb : EG} {pos : Pos} {o : PyData → PyData → Option PyData} (ho : OpD X (compareOp op) o) (ha : PD X a ga) (hb : PD X b gb) (hm : behindInMarks op b = false) : PDT X (.Compare a [op] [b] pos) (asB (eOp o ga gb)) :=
  pt_imp (pt_cmpR ho ha hb hm) fun σ H Q ⟨pp, ps, G, S, b, ps', c, s, e, k⟩ => tOp_D σ H _ ⟨pp, ps, G, S, _, ps', c, s, asB_inv e, fun v G' H' g' r => ⟨b, rv_bl r, k G' H' g'⟩⟩
def bNot (g : BG) : BG := fun S ps => bindP (g S ps) fun b p => some (!b, p)
def bAnd (g h : BG) : BG := fun S ps => bindP (g S ps) fun b p => if b then h S p else some (false, p)
def bOr (g h : BG) : BG := fun S ps => bindP (g S ps) fun b p => if b then some (true, p) else h S p
theorem pdt_not {a : Expr} {g : BG} {pos : Pos} (h : PDT X a g) : PDT X (.UnaryOp .Not a pos) (bNot g) := pt_imp (pt_not h) fun σ H Q ⟨pp, ps, G, S, b, ps', c, s, e, k⟩ => by
  obtain ⟨x, p1, e1, e⟩ := bindP_inv e
  cases e
  exact ⟨pp, ps, G, S, x, _, c, s, e1, k⟩
theorem pdw_and1 {a : Expr} {g : BG} {pos : Pos} (h : PDT X a g) : PDW X (.BoolOp .And [a] pos) g := pw_and1 h
theorem pdw_or1 {a : Expr} {g : BG} {pos : Pos} (h : PDT X a g) : PDW X (.BoolOp .Or [a] pos) g := pw_or1 h
theorem pdw_and {a b : Expr} {rest : List Expr} {g h : BG} {pos : Pos} (ha : PDT X a g) (hb : PDW X (.BoolOp .And (b :: rest) pos) h) : PDW X (.BoolOp .And (a :: b :: rest) pos) (bAnd g h) :=
  pw_imp (pw_and ha hb) fun σ H Q ⟨pp, ps, G, S, b, ps', c, s, e, k⟩ => by
    obtain ⟨x, p1, e1, e⟩ := bindP_inv e
    refine ⟨pp, ps, G, S, x, p1, c, s, e1, fun G1 H1 g1 => ?_⟩
    cases x with
    | true => exact ⟨pp, p1, G1, S, b, ps', g1.cf, s.go g1, e, fun G2 H2 g2 => k G2 H2 (g1.trans g2)⟩
    | false =>
      cases e
      exact k G1 H1 g1
theorem pdw_or {a b : Expr} {rest : List Expr} {g h : BG} {pos : Pos} (ha : PDT X a g) (hb : PDW X (.BoolOp .Or (b :: rest) pos) h) : PDW X (.BoolOp .Or (a :: b :: rest) pos) (bOr g h) :=
  pw_imp (pw_or ha hb) fun σ H Q ⟨pp, ps, G, S, b, ps', c, s, e, k⟩ => by
    obtain ⟨x, p1, e1, e⟩ := bindP_inv e
    refine ⟨pp, ps, G, S, x, p1, c, s, e1, fun G1 H1 g1 => ?_⟩
    cases x with
    | false => exact ⟨pp, p1, G1, S, b, ps', g1.cf, s.go g1, e, fun G2 H2 g2 => k G2 H2 (g1.trans g2)⟩
    | true =>
      cases e
      exact k G1 H1 g1
/-- bools as values -/
def eB (g : BG) : EG := fun S ps => bindP (g S ps) fun b p => some (.bool b, p)
def eAndV (ga gb : EG) : EG := fun S ps => match ga S ps with
  | some (.bool true, p) => gb S p
  | some (.bool false, p) => some (.bool false, p)
  | _ => none
def eOrV (ga gb : EG) : EG := fun S ps => match ga S ps with
  | some (.bool true, p) => some (.bool true, p)
  | some (.bool false, p) => gb S p
  | _ => none
def eNotV (g : EG) : EG := fun S ps => match g S ps with
  | some (.bool b, p) => some (.bool (!b), p)
  | _ => none
theorem pd_one {op : BoolOp} {a : Expr} {g : EG} {pos : Pos} (h : PD X a g) : PD X (.BoolOp op [a] pos) g := pe_one h
theorem pd_and {a b : Expr} {rest : List Expr} {ga gb : EG} {pos : Pos} (ha : PD X a ga) (hb : PD X (.BoolOp .And (b :: rest) pos) gb) : PD X (.BoolOp .And (a :: b :: rest) pos) (eAndV ga gb) :=
  pe_imp (pe_and ha hb) fun σ H Q ⟨pp, ps, G, S, d, ps', c, s, e, k⟩ => by
    unfold eAndV at e
    split at e
    · next p e1 => exact ⟨pp, ps, G, S, _, p, c, s, e1, fun v G1 H1 g1 r1 => ⟨true, rv_bl r1, iteT ⟨pp, p, G1, S, d, ps', g1.cf, s.go g1, e, fun w G2 H2 g2 r2 => k w G2 H2 (g1.trans g2) r2⟩⟩⟩
    · next p e1 =>
      cases e
      exact ⟨pp, ps, G, S, _, _, c, s, e1, fun v G1 H1 g1 r1 => ⟨false, rv_bl r1, iteF (k _ G1 H1 g1 (.bl false))⟩⟩
    · cases e
theorem pd_or {a b : Expr} {rest : List Expr} {ga gb : EG} {pos : Pos} (ha : PD X a ga) (hb : PD X (.BoolOp .Or (b :: rest) pos) gb) : PD X (.BoolOp .Or (a :: b :: rest) pos) (eOrV ga gb) :=
  pe_imp (pe_or ha hb) fun σ H Q ⟨pp, ps, G, S, d, ps', c, s, e, k⟩ => by
    unfold eOrV at e
    split at e
    · next p e1 =>
      cases e
      exact ⟨pp, ps, G, S, _, _, c, s, e1, fun v G1 H1 g1 r1 => ⟨true, rv_bl r1, iteT (k _ G1 H1 g1 (.bl true))⟩⟩
    · next p e1 => exact ⟨pp, ps, G, S, _, p, c, s, e1, fun v G1 H1 g1 r1 => ⟨false, rv_bl r1, iteF ⟨pp, p, G1, S, d, ps', g1.cf, s.go g1, e, fun w G2 H2 g2 r2 => k w G2 H2 (g1.trans g2) r2⟩⟩⟩
    · cases e
theorem pd_not {a : Expr} {g : EG} {pos : Pos} (h : PD X a g) : PD X (.UnaryOp .Not a pos) (eNotV g) := pe_imp (pe_not h) fun σ H Q ⟨pp, ps, G, S, d, ps', c, s, e, k⟩ => by
  unfold eNotV at e
  split at e
  · next b p e1 =>
    cases e
    exact ⟨pp, ps, G, S, _, _, c, s, e1, fun v G1 H1 g1 r1 => ⟨b, rv_bl r1, k _ G1 H1 g1 (.bl _)⟩⟩
  · cases e
def eIf (t : BG) (ga gb : EG) : EG := fun S ps => bindP (t S ps) fun b p => if b then ga S p else gb S p
theorem pd_if {t a b : Expr} {gt : BG} {ga gb : EG} {pos : Pos} (ht : PDT X t gt) (ha : PD X a ga) (hb : PD X b gb) : PD X (.IfExp t a b pos) (eIf gt ga gb) :=
  pe_imp (pe_ifExp ht ha hb) fun σ H Q ⟨pp, ps, G, S, d, ps', c, s, e, k⟩ => by
    obtain ⟨x, p1, e1, e⟩ := bindP_inv e
    refine ⟨pp, ps, G, S, x, p1, c, s, e1, fun G1 H1 g1 => ?_⟩
    cases x with
    | true => exact iteT ⟨pp, p1, G1, S, d, ps', g1.cf, s.go g1, e, fun v G2 H2 g2 r2 => k v G2 H2 (g1.trans g2) r2⟩
    | false => exact iteF ⟨pp, p1, G1, S, d, ps', g1.cf, s.go g1, e, fun v G2 H2 g2 r2 => k v G2 H2 (g1.trans g2) r2⟩

/-! ### calls -/
def eCall (f : List PyData → Pt → Option (PyData × Pt)) (gs : AG) : EG := fun S ps => bindP (gs S ps) fun ds p => f ds p
def eCB (f : List PyData → Option PyData) (gs : AG) : EG := fun S ps => bindP (gs S ps) fun ds p => (f ds).map fun d => (d, p)
/-- a def's promise: called with such data it gives what fn says -/
def spD (K : PySem.W.Frag) (n : Nat) (fn : List PyData → Pt → Option (PyData × Pt)) : Sp := fun vs H Q _ => ∃ (pp : Option Addr) (ps : Pt) (G : Hp) (ds : List PyData) (d : PyData) (ps' : Pt), ds.length = n ∧ Cf pp ps G H ∧ RvL K pp G vs ds ∧ fn ds ps = some (d, ps') ∧
  ∀ v G' H', Go pp ps' [] G H G' H' → Rv K pp G' v d → Q v H'
abbrev FnD (P : Program) (w : World) (K : PySem.W.Frag) (mg : Str → Option Value) (base : Heap) (k : Nat) (f : Addr) (fd : FuncData) (ps : List Str) (fn : List PyData → Pt → Option (PyData × Pt)) : Prop := FnOk P w K mg base CX0 k f fd ps (spD K ps.length fn)
theorem aCons_len {gs : AG} {S : Sd} {ps p : Pt} {ds : List PyData} (n : Nat) (h : gs S ps = some (ds, p)) (hl : ∀ S ps ds p, gs S ps = some (ds, p) → ds.length = n) : ds.length = n := hl S ps ds p h
theorem pd_call {k : Nat} {f : Addr} {fd : FuncData} {qs : List Str} {fn : List PyData → Pt → Option (PyData × Pt)} {x : Str} {p pos : Pos} {e : Expr} {es : List Expr} {gs : AG} (F : FnD X.prog X.w X.K X.mg X.base k f fd qs fn) (hr : Room k X.A) (hg : Gl X x) (hm : X.mg x = some (.ref f))
    (hk : PySem.W.keepIn X.K (.ref f) = true) (hb : Binds X.K fd qs []) (ha : PDA X (e :: es) gs) (hl : ∀ S ps ds p, gs S ps = some (ds, p) → ds.length = qs.length) (hdb : (x == ("__debug__" : Str)) = false := by decide)
    (he : starEach (e :: es) X.env = (false, eval e X.env) :: starEach es X.env := by rfl) (hpl : (backTo pos (starEach es X.env)).any (·.1) = false := by rfl) : PD X (.Call (.Name x p) (e :: es) [] pos) (eCall fn gs) :=
  pe_imp (pe_call (E := E0) F hr hg hm hk hb .nil pass0 ha hdb he hpl) fun σ H Q ⟨pp, ps, G, S, d, ps', c, s, e, k⟩ => by
    obtain ⟨ds, p1, e1, e⟩ := bindP_inv e
    refine ⟨pp, ps, G, S, ds, p1, c, s, e1, fun vs G1 H1 g1 r1 => ?_⟩
    show spD X.K qs.length fn (vs ++ []) H1 Q E0
    rw [List.append_nil]
    exact ⟨pp, p1, G1, ds, d, ps', hl _ _ _ _ e1, g1.cf, r1, e, fun v G2 H2 g2 r2 => k v G2 H2 (g1.trans g2) r2⟩
theorem tCB_D {o : List PyData → Option PyData} {gs : AG} (σ : L2.St) (H : Hp) (Q : VK) (h : TD X.K (eCB o gs) σ H Q) : tCB (rDL X.K o) (TDA X.K gs) σ H Q := by
  obtain ⟨pp, ps, G, S, d, ps', c, s, e, k⟩ := h
  obtain ⟨ds, p1, e1, e⟩ := bindP_inv e
  obtain ⟨d', e2, e⟩ := map_inv e
  cases e
  exact ⟨pp, ps, G, S, ds, _, c, s, e1, fun vs G1 H1 g1 r1 => ⟨pp, _, G1, ds, d, g1.cf, r1, e2, fun v G2 H2 g2 r2 => k v G2 H2 (g1.trans g2) r2⟩⟩
theorem pd_callB {id : String} {x : Str} {p pos : Pos} {e : Expr} {es : List Expr} {gs : AG} {o : List PyData → Option PyData} (hc : CallR X (.builtin id) (rDL X.K o)) (hg : Gl X x) (hm : X.mg x = none) (hv : bootBuiltins x = some (.builtin id)) (ha : PDA X (e :: es) gs)
    (hn : x ≠ "__name__" := by decide) (hdb : (x == ("__debug__" : Str)) = false := by decide) (he : starEach (e :: es) X.env = (false, eval e X.env) :: starEach es X.env := by rfl) (hpl : (backTo pos (starEach es X.env)).any (·.1) = false := by rfl) :
    PD X (.Call (.Name x p) (e :: es) [] pos) (eCB o gs) := pe_imp (pe_callB hc hg hm hv ha hn hdb he hpl) tCB_D
theorem pd_callTy {T : String} {x : Str} {p pos : Pos} {e : Expr} {es : List Expr} {gs : AG} {o : List PyData → Option PyData} (hc : CallR X (.type T) (rDL X.K o)) (hg : Gl X x) (hm : X.mg x = none) (hv : bootBuiltins x = some (.type T)) (ha : PDA X (e :: es) gs)
    (hn : x ≠ "__name__" := by decide) (hdb : (x == ("__debug__" : Str)) = false := by decide) (he : starEach (e :: es) X.env = (false, eval e X.env) :: starEach es X.env := by rfl) (hpl : (backTo pos (starEach es X.env)).any (·.1) = false := by rfl) :
    PD X (.Call (.Name x p) (e :: es) [] pos) (eCB o gs) := pe_imp (pe_callTy hc hg hm hv ha hn hdb he hpl) tCB_D
end
end DL

set_option Elab.async false
set_option linter.all false
set_option maxRecDepth 100000
/-! D-layer, part c: operators and built-in functions on data. -/
namespace DL
open PySem L2
variable [TBL]
section
variable {X : Cx}

theorem cf_l {pp : Option Addr} {ps : Pt} {G H : Hp} {K : PySem.W.Frag} {a : Addr} {xs : List V} (c : Cf pp ps G H) (h : Rd G a (.lst xs)) : SqL K H a xs := .inl (same_l c.ex h)
theorem cf_t {pp : Option Addr} {ps : Pt} {G H : Hp} {K : PySem.W.Frag} {a : Addr} {xs : List V} (c : Cf pp ps G H) (h : SqT K G a xs) : SqT K H a xs := same_t c.ex h

/-! ### ints -/
def onI2 (P : Int → Int → Bool) (f : Int → Int → PyData) : PyData → PyData → Option PyData
  | .int i, .int j => if P i j then some (f i j) else none
  | _, _ => none
theorem onI2_inv {P : Int → Int → Bool} {f : Int → Int → PyData} {x y d : PyData} (h : onI2 P f x y = some d) : ∃ i j, x = .int i ∧ y = .int j ∧ P i j = true ∧ f i j = d := by
  unfold onI2 at h
  split at h
  · next i j =>
    obtain ⟨h1, h2⟩ := ite_inv h
    exact ⟨i, j, rfl, rfl, h1, h2⟩
  · cases h
theorem opd_int {f : Value → Value → Sem Value} {C : Int → Int → Prop} {P : Int → Int → Bool} {F : Int → Int → Int} (h : OpR X f (rI C fun i j => .int (F i j))) (hc : ∀ i j, P i j = true → C i j) : OpD X f (onI2 P fun i j => .int (F i j)) := by
  intro pins s σ H x y v u Q I rx ry ⟨pp, ps, G, dx, dy, d, c, r1, r2, e, k⟩
  obtain ⟨i, j, rfl, rfl, hp, rfl⟩ := onI2_inv e
  cases r1
  cases r2
  exact h pins s σ H _ _ v u Q I rx ry ⟨i, j, rfl, rfl, hc i j hp, k _ G H (Go.refl c) (.int _)⟩
theorem opd_int0 {f : Value → Value → Sem Value} {F : Int → Int → Int} (h : OpR X f (rI0 fun i j => .int (F i j))) : OpD X f (onI2 (fun _ _ => true) fun i j => .int (F i j)) := by
  intro pins s σ H x y v u Q I rx ry ⟨pp, ps, G, dx, dy, d, c, r1, r2, e, k⟩
  obtain ⟨i, j, rfl, rfl, hp, rfl⟩ := onI2_inv e
  cases r1
  cases r2
  exact h pins s σ H _ _ v u Q I rx ry ⟨i, j, rfl, rfl, k _ G H (Go.refl c) (.int _)⟩
/-- one of two operations, by what it is of -/
def orD (o o' : PyData → PyData → Option PyData) (x y : PyData) : Option PyData := match o x y with
  | some d => some d
  | none => o' x y
theorem opd_or {f : Value → Value → Sem Value} {o o' : PyData → PyData → Option PyData} (h : OpD X f o) (h' : OpD X f o') : OpD X f (orD o o') := by
  intro pins s σ H x y v u Q I rx ry ⟨pp, ps, G, dx, dy, d, c, r1, r2, e, k⟩
  unfold orD at e
  split at e
  · next d' e1 =>
    cases e
    exact h pins s σ H x y v u Q I rx ry ⟨pp, ps, G, dx, dy, d, c, r1, r2, e1, k⟩
  · exact h' pins s σ H x y v u Q I rx ry ⟨pp, ps, G, dx, dy, d, c, r1, r2, e, k⟩
def addI : PyData → PyData → Option PyData := onI2 (fun _ _ => true) fun i j => .int (i + j)
def subI : PyData → PyData → Option PyData := onI2 (fun _ _ => true) fun i j => .int (i - j)
def mulI : PyData → PyData → Option PyData := onI2 (fun i j => decide (i.natAbs.log2 + j.natAbs.log2 < 1000000)) fun i j => .int (i * j)
def modI : PyData → PyData → Option PyData := onI2 (fun _ j => decide (0 < j)) fun i j => .int (i % j)
def fdivI : PyData → PyData → Option PyData := onI2 (fun _ j => decide (0 < j) && decide (j.natAbs.log2 < 9000)) fun i j => .int (i / j)
theorem opd_addI : OpD X (binaryOp .Add) addI := opd_int0 op_add
theorem opd_sub : OpD X (binaryOp .Sub) subI := opd_int0 op_sub
theorem opd_mul : OpD X (binaryOp .Mult) mulI := opd_int op_mulW fun i j h => (of_decide_eq_true h : i.natAbs.log2 + j.natAbs.log2 < 1000000)
theorem opd_mod : OpD X (binaryOp .Mod) modI := opd_int op_mod fun _ _ h => of_decide_eq_true h
theorem opd_fdiv : OpD X (binaryOp .FloorDiv) fdivI := opd_int op_fdivW fun _ _ h => by
  rw [Bool.and_eq_true] at h
  exact ⟨of_decide_eq_true h.1, of_decide_eq_true h.2⟩
/-! ### texts, lists, tuples joined -/
def addS : PyData → PyData → Option PyData
  | .str x, .str y => if decide (x.length + y.length ≤ 16777216) then some (.str (x ++ y)) else none
  | _, _ => none
def addL : PyData → PyData → Option PyData
  | .list x, .list y => if decide (x.length + y.length ≤ 16777216) then some (.list (x ++ y)) else none
  | _, _ => none
def addT : PyData → PyData → Option PyData
  | .tuple x, .tuple y => if decide (x.length + y.length ≤ 16777216) then some (.tuple (x ++ y)) else none
  | _, _ => none
theorem opd_addS : OpD X (binaryOp .Add) addS := by
  intro pins s σ H x y v u Q I rx ry ⟨pp, ps, G, dx, dy, d, c, r1, r2, e, k⟩
  unfold addS at e
  split at e
  · next a b =>
    obtain ⟨h1, rfl⟩ := ite_inv e
    cases r1
    cases r2
    exact op_add_str pins s σ H _ _ v u Q I rx ry ⟨a, b, rfl, rfl, by rw [sizeLine_eq]; exact of_decide_eq_true h1, k _ G H (Go.refl c) (.str _)⟩
  · cases e
theorem opd_addT : OpD X (binaryOp .Add) addT := by
  intro pins s σ H x y v u Q I rx ry ⟨pp, ps, G, dx, dy, d, c, r1, r2, e, k⟩
  unfold addT at e
  split at e
  · next a b =>
    obtain ⟨h1, rfl⟩ := ite_inv e
    obtain ⟨p, xs, rfl, hp, ha⟩ := rv_tup r1
    obtain ⟨q, ys, rfl, hq, hb⟩ := rv_tup r2
    have hx := ha.length
    have hy := hb.length
    refine op_catA pins s σ H _ _ v u Q I rx ry ⟨p, q, xs, ys, rfl, rfl, cf_t c hp, cf_t c hq, ?_, fun e0 => ?_, fun _ e0 => ?_, fun _ _ p' hp' => ?_⟩
    · rw [hx, hy, sizeLine_eq]
      exact of_decide_eq_true h1
    · subst e0
      cases ha
      exact k _ G H (Go.refl c) (.tup hq hb)
    · subst e0
      cases hb
      rw [List.append_nil] at k
      exact k _ G H (Go.refl c) (.tup hp ha)
    · have gl : Go pp ps [] G H (upd G p' (.tup (xs ++ ys))) (upd H p' (.tup (xs ++ ys))) := Go.lay c hp'
      exact k _ _ _ gl (.tup (.inl (.inl upd_same)) (RvL.mono gl.gg _ _ (ha.app hb)))
  · cases e
theorem opd_addL : OpD X (binaryOp .Add) addL := by
  intro pins s σ H x y v u Q I rx ry ⟨pp, ps, G, dx, dy, d, c, r1, r2, e, k⟩
  unfold addL at e
  split at e
  · next a b =>
    obtain ⟨h1, rfl⟩ := ite_inv e
    obtain ⟨p, xs, rfl, hp, ha⟩ := rv_lst r1
    obtain ⟨q, ys, rfl, hq, hb⟩ := rv_lst r2
    cases rx
    cases ry
    obtain ⟨z, its, n, r, e1⟩ := (same_l c.ex hp).ok I.hok
    obtain ⟨z2, its2, n2, r2, e2⟩ := (same_l c.ex hq).ok I.hok
    have hl := r.length
    have hl2 := r2.length
    have hx := ha.length
    have hy := hb.length
    have hz : its.length + its2.length ≤ sizeLine := by
      rw [← hl, ← hl2, hx, hy, sizeLine_eq]
      exact of_decide_eq_true h1
    refine PySem.P.add_list e1 e2 ?_ (by rw [List.size_toArray, List.size_toArray]; exact hz)
    have ea : its.toArray ++ its2.toArray = (its ++ its2).toArray := by simp
    rw [ea]
    have gl : Go pp ps [] G H (upd G _ (.lst (xs ++ ys))) (upd H _ (.lst (xs ++ ys))) := Go.lay c I.fresh
    exact ⟨.ref _, _, I.lnew (t' := s.toks) (r.append r2) (by rw [List.length_append, hl, hl2]; exact hz), rfl, k _ _ _ gl (.lst (.inl upd_same) (RvL.mono gl.gg _ _ (ha.app hb)))⟩
  · cases e
def addD : PyData → PyData → Option PyData := orD addI (orD addS (orD addL addT))
theorem opd_add : OpD X (binaryOp .Add) addD := opd_or opd_addI (opd_or opd_addS (opd_or opd_addL opd_addT))
/-! ### comparisons -/
def cmpI (P : Int → Int → Bool) : PyData → PyData → Option PyData := onI2 (fun _ _ => true) fun i j => .bool (P i j)
theorem opd_cmpI {op : CmpOp} {P : Int → Int → Bool} (rule : ∀ (i j : Int) (t u : Tok) (Q : Value → Shared → Prop) (s : Shared), Q (.bool (P i j)) s → wpAny (model X.prog X.w) X.A (compareOp op (.int i t) (.int j u)) Q X.xe s) : OpD X (compareOp op) (cmpI P) := by
  intro pins s σ H x y v u Q I rx ry ⟨pp, ps, G, dx, dy, d, c, r1, r2, e, k⟩
  obtain ⟨i, j, rfl, rfl, hp, rfl⟩ := onI2_inv e
  cases r1
  cases r2
  obtain ⟨t, rfl⟩ := rx
  obtain ⟨t', rfl⟩ := ry
  exact rule i j t t' _ s ⟨.bl _, H, I, rfl, k _ G H (Go.refl c) (.bl _)⟩
def ltI := cmpI fun i j => decide (i < j)
def leI := cmpI fun i j => decide (i ≤ j)
def gtI := cmpI fun i j => decide (j < i)
def geI := cmpI fun i j => decide (j ≤ i)
theorem opd_ltI : OpD X (compareOp .Lt) ltI := opd_cmpI fun _ _ _ _ _ _ h => PyProof.Rows.lt_int h
theorem opd_leI : OpD X (compareOp .LtE) leI := opd_cmpI fun _ _ _ _ _ _ h => PyProof.Rows.le_int h
theorem opd_gtI : OpD X (compareOp .Gt) gtI := opd_cmpI fun _ _ _ _ _ _ h => PyProof.Rows.gt_int h
theorem opd_geI : OpD X (compareOp .GtE) geI := opd_cmpI fun _ _ _ _ _ _ h => PyProof.Rows.ge_int h
def eqD (x y : PyData) : Option PyData := if SeqAt.shaped x && SeqAt.shaped y then some (.bool (PyData.eqv x y)) else none
def neD (x y : PyData) : Option PyData := if SeqAt.shaped x && SeqAt.shaped y then some (.bool (!PyData.eqv x y)) else none
theorem opd_eq (hu : X.A.units + 64 < cLine) : OpD X (compareOp .Eq) eqD := by
  intro pins s σ H x y v u Q I rx ry ⟨pp, ps, G, dx, dy, d, c, r1, r2, e, k⟩
  obtain ⟨h1, rfl⟩ := ite_inv e
  rw [Bool.and_eq_true] at h1
  exact op_eqD hu pins s σ H x y v u Q I rx ry ⟨dx, dy, Rv.dp c.ex _ _ r1 (SeqAt.canLay_of_shaped h1.1), Rv.dp c.ex _ _ r2 (SeqAt.canLay_of_shaped h1.2), h1.1, h1.2, k _ G H (Go.refl c) (.bl _)⟩
theorem opd_ne (hu : X.A.units + 64 < cLine) : OpD X (compareOp .NotEq) neD := by
  intro pins s σ H x y v u Q I rx ry ⟨pp, ps, G, dx, dy, d, c, r1, r2, e, k⟩
  obtain ⟨h1, rfl⟩ := ite_inv e
  rw [Bool.and_eq_true] at h1
  exact op_neD hu pins s σ H x y v u Q I rx ry ⟨dx, dy, Rv.dp c.ex _ _ r1 (SeqAt.canLay_of_shaped h1.1), Rv.dp c.ex _ _ r2 (SeqAt.canLay_of_shaped h1.2), h1.1, h1.2, k _ G H (Go.refl c) (.bl _)⟩
def items : PyData → Option (List PyData)
  | .list ds => some ds
  | .tuple ds => some ds
  | _ => none
def inD (neg : Bool) (x y : PyData) : Option PyData := match items y with
  | some ds => if SeqAt.shaped x && SeqAt.shaped y then some (.bool (if neg then !ds.any (fun z => PyData.eqv z x) else ds.any fun z => PyData.eqv z x)) else none
  | none => none
theorem inD_inv {neg : Bool} {x y d : PyData} (h : inD neg x y = some d) : ∃ ds, (y = .list ds ∨ y = .tuple ds) ∧ SeqAt.shaped x = true ∧ SeqAt.shaped y = true ∧ d = .bool (if neg then !ds.any (fun z => PyData.eqv z x) else ds.any fun z => PyData.eqv z x) := by
  unfold inD at h
  split at h
  · next ds e =>
    obtain ⟨h1, rfl⟩ := ite_inv h
    rw [Bool.and_eq_true] at h1
    refine ⟨ds, ?_, h1.1, h1.2, rfl⟩
    cases y with
    | list l => cases e; exact .inl rfl
    | tuple l => cases e; exact .inr rfl
    | _ => cases e
  · cases h
theorem depth_items {ds : List PyData} (h : SeqAt.shaped (.tuple ds) = true) : SeqAt.shaped (.list ds) = true := by
  have h1 := SeqAt.canLay_of_shaped h
  have h2 := SeqAt.depth_of_shaped h
  show ((PyData.list ds).canLay0 && decide ((PyData.list ds).depth ≤ 64)) = true
  rw [Bool.and_eq_true]
  refine ⟨?_, decide_eq_true ?_⟩
  · simpa only [PyData.canLay0] using h1
  · simpa only [PyData.depth] using h2
theorem opd_in (hu : X.A.units + 65 < cLine) : OpD X (compareOp .In) (inD false) := by
  intro pins s σ H x y v u Q I rx ry ⟨pp, ps, G, dx, dy, d, c, r1, r2, e, k⟩
  obtain ⟨ds, hy, h1, h2, rfl⟩ := inD_inv e
  have q := k _ G H (Go.refl c) (.bl _)
  have p1 := Rv.dp c.ex _ _ r1 (SeqAt.canLay_of_shaped h1)
  have p2 := Rv.dp c.ex _ _ r2 (SeqAt.canLay_of_shaped h2)
  obtain ⟨as, q1⟩ := Dp.reads I dx x v p1 rx
  obtain ⟨bs, q2⟩ := Dp.reads I dy y u p2 ry
  rcases hy with rfl | rfl
  · exact SeqAt.in_list_reads q2 q1 (SeqAt.canLay_of_shaped h2) (SeqAt.canLay_of_shaped h1) (PyProof.Rows.room_in_shaped h1 hu) ⟨.bl _, H, I, rfl, q⟩
  · exact SeqAt.in_tuple_reads q2 q1 (SeqAt.canLay_of_shaped h2) (SeqAt.canLay_of_shaped h1) (PyProof.Rows.room_in_shaped h1 hu) ⟨.bl _, H, I, rfl, q⟩
theorem opd_notIn (hu : X.A.units + 65 < cLine) : OpD X (compareOp .NotIn) (inD true) := by
  intro pins s σ H x y v u Q I rx ry ⟨pp, ps, G, dx, dy, d, c, r1, r2, e, k⟩
  obtain ⟨ds, hy, h1, h2, rfl⟩ := inD_inv e
  have q := k _ G H (Go.refl c) (.bl _)
  have p1 := Rv.dp c.ex _ _ r1 (SeqAt.canLay_of_shaped h1)
  have p2 := Rv.dp c.ex _ _ r2 (SeqAt.canLay_of_shaped h2)
  obtain ⟨as, q1⟩ := Dp.reads I dx x v p1 rx
  obtain ⟨bs, q2⟩ := Dp.reads I dy y u p2 ry
  rcases hy with rfl | rfl
  · exact SeqAt.notIn_list_reads q2 q1 (SeqAt.canLay_of_shaped h2) (SeqAt.canLay_of_shaped h1) (PyProof.Rows.room_in_shaped h1 hu) ⟨.bl _, H, I, rfl, q⟩
  · exact SeqAt.notIn_tuple_reads q2 q1 (SeqAt.canLay_of_shaped h2) (SeqAt.canLay_of_shaped h1) (PyProof.Rows.room_in_shaped h1 hu) ⟨.bl _, H, I, rfl, q⟩
/-! ### items -/
def ixD : PyData → PyData → Option PyData
  | .list ds, .int i => atI ds i
  | .tuple ds, .int i => atI ds i
  | .str z, .int i => if decide (z.length ≤ 16777216) then (atI z.cps.toList i).map fun c => .str ⟨#[c]⟩ else none
  | _, _ => none
theorem atI_rv {pp : Option Addr} {G : Hp} {xs : List V} {ds : List PyData} {i : Int} {d : PyData} (h : RvL X.K pp G xs ds) (e : atI ds i = some d) : ∃ v, atI xs i = some v ∧ Rv X.K pp G v d := by
  unfold atI at e ⊢
  rw [h.length]
  cases q : ixN ds.length i with
  | none =>
    rw [q] at e
    cases e
  | some j =>
    rw [q] at e
    exact h.get e
theorem ixd : IxR X (rD2 X.K ixD) := by
  intro ea eb pins s σ H x y v u Q I rx ry ⟨pp, ps, G, dx, dy, d, c, r1, r2, e, k⟩ hsub
  unfold ixD at e
  split at e
  · next ds i =>
    obtain ⟨p, xs, rfl, hp, ha⟩ := rv_lst r1
    cases r2
    obtain ⟨z, hz, rz⟩ := atI_rv ha e
    exact ix_seq ea eb pins s σ H _ _ v u Q I rx ry (.inl ⟨p, xs, i, z, rfl, rfl, cf_l c hp, hz, k _ G H (Go.refl c) rz⟩) hsub
  · next ds i =>
    obtain ⟨p, xs, rfl, hp, ha⟩ := rv_tup r1
    cases r2
    obtain ⟨z, hz, rz⟩ := atI_rv ha e
    exact ix_seq ea eb pins s σ H _ _ v u Q I rx ry (.inr (.inl ⟨p, xs, i, z, rfl, rfl, cf_t c hp, hz, k _ G H (Go.refl c) rz⟩)) hsub
  · next z i =>
    split at e
    · next hl =>
      obtain ⟨ch, h1, rfl⟩ := map_inv e
      cases r1
      cases r2
      exact ix_seq ea eb pins s σ H _ _ v u Q I rx ry (.inr (.inr ⟨z, i, ch, rfl, rfl, by rw [sizeLine_eq]; exact of_decide_eq_true hl, h1, k _ G H (Go.refl c) (.str _)⟩)) hsub
    · cases e
  · cases e
/-! ### built-in functions -/
def one (f : PyData → Option PyData) : List PyData → Option PyData
  | [x] => f x
  | _ => none
theorem one_inv {f : PyData → Option PyData} {xs : List PyData} {d : PyData} (h : one f xs = some d) : ∃ x, xs = [x] ∧ f x = some d := by
  unfold one at h
  split at h
  · exact ⟨_, rfl, h⟩
  · cases h
theorem rvl_one {K : PySem.W.Frag} {pp : Option Addr} {G : Hp} {vs : List V} {x : PyData} (h : RvL K pp G vs [x]) : ∃ v, vs = [v] ∧ Rv K pp G v x := by
  cases h with
  | cons a b =>
    cases b
    exact ⟨_, rfl, a⟩
theorem rvl_two {K : PySem.W.Frag} {pp : Option Addr} {G : Hp} {vs : List V} {x y : PyData} (h : RvL K pp G vs [x, y]) : ∃ v w, vs = [v, w] ∧ Rv K pp G v x ∧ Rv K pp G w y := by
  cases h with
  | cons a b =>
    obtain ⟨w, rfl, r⟩ := rvl_one b
    exact ⟨_, w, rfl, a, r⟩
def lenD : PyData → Option PyData
  | .list ds => some (.int ds.length)
  | .tuple ds => some (.int ds.length)
  | .str z => if decide (z.length ≤ 16777216) then some (.int z.length) else none
  | _ => none
theorem cd_len : CallR X (.builtin "len") (rDL X.K (one lenD)) := by
  intro pins s σ H vs us Q I rs ⟨pp, ps, G, xs, d, c, r, e, k⟩
  obtain ⟨x, ex, e1⟩ := one_inv e
  subst ex
  clear e
  obtain ⟨v, ev, r1⟩ := rvl_one r
  subst ev
  clear r
  have e := e1
  clear e1
  have r := r1
  clear r1
  unfold lenD at e
  split at e
  · next ds =>
    cases e
    obtain ⟨p, ys, rfl, hp, ha⟩ := rv_lst r
    refine call_len pins s σ H _ us Q I rs ⟨_, ys.length, rfl, .inl ⟨ys, cf_l c hp, rfl⟩, ?_⟩
    rw [ha.length]
    exact k _ G H (Go.refl c) (.int _)
  · next ds =>
    cases e
    obtain ⟨p, ys, rfl, hp, ha⟩ := rv_tup r
    refine call_len pins s σ H _ us Q I rs ⟨_, ys.length, rfl, .inr ⟨ys, cf_t c hp, rfl⟩, ?_⟩
    rw [ha.length]
    exact k _ G H (Go.refl c) (.int _)
  · next z =>
    obtain ⟨h1, rfl⟩ := ite_inv e
    cases r
    exact call_len pins s σ H _ us Q I rs ⟨_, z.length, rfl, ⟨by rw [sizeLine_eq]; exact of_decide_eq_true h1, rfl⟩, k _ G H (Go.refl c) (.int _)⟩
  · cases e
def tupleD : PyData → Option PyData
  | .list ds => some (.tuple ds)
  | .tuple ds => some (.tuple ds)
  | _ => none
def listD : PyData → Option PyData
  | .list ds => some (.list ds)
  | .tuple ds => some (.list ds)
  | _ => none
theorem cd_tuple : CallR X (.type "tuple") (rDL X.K (one tupleD)) := by
  intro pins s σ H vs us Q I rs ⟨pp, ps, G, xs, d, c, r, e, k⟩
  obtain ⟨x, ex, e1⟩ := one_inv e
  subst ex
  clear e
  obtain ⟨v, ev, r1⟩ := rvl_one r
  subst ev
  clear r
  have e := e1
  clear e1
  have r := r1
  clear r1
  unfold tupleD at e
  split at e
  · next ds =>
    cases e
    obtain ⟨p, ys, rfl, hp, ha⟩ := rv_lst r
    refine call_tuple_of pins s σ H _ us Q I rs ⟨p, ys, rfl, .inl ⟨cf_l c hp, fun l hl => ?_⟩⟩
    have gl : Go pp ps [] G H (upd G l (.tup ys)) (upd H l (.tup ys)) := Go.lay c hl
    exact k _ _ _ gl (.tup (.inl (.inl upd_same)) (RvL.mono gl.gg _ _ ha))
  · next ds =>
    cases e
    obtain ⟨p, ys, rfl, hp, ha⟩ := rv_tup r
    exact call_tuple_of pins s σ H _ us Q I rs ⟨p, ys, rfl, .inr ⟨cf_t c hp, k _ G H (Go.refl c) (.tup hp ha)⟩⟩
  · cases e
theorem cd_list : CallR X (.type "list") (rDL X.K (one listD)) := by
  intro pins s σ H vs us Q I rs ⟨pp, ps, G, xs, d, c, r, e, k⟩
  obtain ⟨x, ex, e1⟩ := one_inv e
  subst ex
  clear e
  obtain ⟨v, ev, r1⟩ := rvl_one r
  subst ev
  clear r
  have e := e1
  clear e1
  have r := r1
  clear r1
  have fin : ∀ (p : Addr) (ys : List V) (ds : List PyData), RvL X.K pp G ys ds → d = .list ds → ∀ l, H l = none → Q (.ref l) (upd H l (.lst ys)) := fun p ys ds ha ed l hl => by
    subst ed
    have gl : Go pp ps [] G H (upd G l (.lst ys)) (upd H l (.lst ys)) := Go.lay c hl
    exact k _ _ _ gl (.lst (.inl upd_same) (RvL.mono gl.gg _ _ ha))
  unfold listD at e
  split at e
  · next ds =>
    cases e
    obtain ⟨p, ys, rfl, hp, ha⟩ := rv_lst r
    exact call_list_of pins s σ H _ us Q I rs ⟨p, ys, rfl, .inl (cf_l c hp), fin p ys ds ha rfl⟩
  · next ds =>
    cases e
    obtain ⟨p, ys, rfl, hp, ha⟩ := rv_tup r
    exact call_list_of pins s σ H _ us Q I rs ⟨p, ys, rfl, .inr (cf_t c hp), fin p ys ds ha rfl⟩
  · cases e
/-- a list of truth values -/
def bools : List PyData → Option (List Bool)
  | [] => some []
  | .bool b :: r => (bools r).map (b :: ·)
  | _ :: _ => none
theorem bools_rv {K : PySem.W.Frag} {pp : Option Addr} {G : Hp} : ∀ {ds : List PyData} {bs : List Bool} {vs : List V}, bools ds = some bs → RvL K pp G vs ds → vs = bs.map V.bl
  | [], bs, vs, e, h => by
    cases e
    cases h
    rfl
  | x :: r, bs, vs, e, h => by
    cases h with
    | cons a t =>
      cases x with
      | bool b =>
        have e' : (bools r).map (b :: ·) = some bs := e
        obtain ⟨bs', h1, rfl⟩ := map_inv e'
        rw [rv_bl a, bools_rv h1 t]
        rfl
      | _ => cases e
def allD : PyData → Option PyData
  | .list ds => (bools ds).map fun bs => .bool (bs.all id)
  | _ => none
def anyD : PyData → Option PyData
  | .list ds => (bools ds).map fun bs => .bool (bs.any id)
  | _ => none
theorem cd_all (hc : X.calm = true) : CallR X (.builtin "all") (rDL X.K (one allD)) := by
  intro pins s σ H vs us Q I rs ⟨pp, ps, G, xs, d, c, r, e, k⟩
  obtain ⟨x, ex, e1⟩ := one_inv e
  subst ex
  clear e
  obtain ⟨v, ev, r1⟩ := rvl_one r
  subst ev
  clear r
  have e := e1
  clear e1
  have r := r1
  clear r1
  unfold allD at e
  split at e
  · next ds =>
    obtain ⟨bs, h1, rfl⟩ := map_inv e
    obtain ⟨p, ys, rfl, hp, ha⟩ := rv_lst r
    have ey := bools_rv h1 ha
    subst ey
    exact cr_all hc pins s σ H _ us Q I rs ⟨p, bs, rfl, cf_l c hp, k _ G H (Go.refl c) (.bl _)⟩
  · cases e
theorem cd_any (hc : X.calm = true) : CallR X (.builtin "any") (rDL X.K (one anyD)) := by
  intro pins s σ H vs us Q I rs ⟨pp, ps, G, xs, d, c, r, e, k⟩
  obtain ⟨x, ex, e1⟩ := one_inv e
  subst ex
  clear e
  obtain ⟨v, ev, r1⟩ := rvl_one r
  subst ev
  clear r
  have e := e1
  clear e1
  have r := r1
  clear r1
  unfold anyD at e
  split at e
  · next ds =>
    obtain ⟨bs, h1, rfl⟩ := map_inv e
    obtain ⟨p, ys, rfl, hp, ha⟩ := rv_lst r
    have ey := bools_rv h1 ha
    subst ey
    exact cr_any hc pins s σ H _ us Q I rs ⟨p, bs, rfl, cf_l c hp, k _ G H (Go.refl c) (.bl _)⟩
  · cases e
def intD : PyData → Option PyData
  | .int i => some (.int i)
  | .bool b => some (.int (if b then 1 else 0))
  | _ => none
theorem cd_int : CallR X (.type "int") (rDL X.K (one intD)) := by
  intro pins s σ H vs us Q I rs ⟨pp, ps, G, xs, d, c, r, e, k⟩
  obtain ⟨x, ex, e1⟩ := one_inv e
  subst ex
  clear e
  obtain ⟨v, ev, r1⟩ := rvl_one r
  subst ev
  clear r
  have e := e1
  clear e1
  have r := r1
  clear r1
  unfold intD at e
  split at e
  · next i =>
    cases e
    cases r
    exact call_int1 pins s σ H _ us Q I rs (.inl ⟨i, rfl, k _ G H (Go.refl c) (.int _)⟩)
  · next b =>
    cases e
    cases r
    exact call_int1 pins s σ H _ us Q I rs (.inr ⟨b, rfl, k _ G H (Go.refl c) (.int _)⟩)
  · cases e
def absD : PyData → Option PyData
  | .int i => some (.int (if i < 0 then -i else i))
  | _ => none
theorem cd_abs : CallR X (.builtin "abs") (rDL X.K (one absD)) := by
  intro pins s σ H vs us Q I rs ⟨pp, ps, G, xs, d, c, r, e, k⟩
  obtain ⟨x, ex, e1⟩ := one_inv e
  subst ex
  clear e
  obtain ⟨v, ev, r1⟩ := rvl_one r
  subst ev
  clear r
  have e := e1
  clear e1
  have r := r1
  clear r1
  unfold absD at e
  split at e
  · next i =>
    cases e
    cases r
    exact call_abs pins s σ H _ us Q I rs ⟨i, rfl, k _ G H (Go.refl c) (.int _)⟩
  · cases e
def max2 : List PyData → Option PyData
  | [.int i, .int j] => some (.int (if j > i then j else i))
  | _ => none
def min2 : List PyData → Option PyData
  | [.int i, .int j] => some (.int (if j < i then j else i))
  | _ => none
theorem cd_max2 (hc : X.calm = true) : CallR X (.builtin "max") (rDL X.K max2) := by
  intro pins s σ H vs us Q I rs ⟨pp, ps, G, xs, d, c, r, e, k⟩
  unfold max2 at e
  split at e
  · next i j =>
    cases e
    obtain ⟨v, w, rfl, r1, r2⟩ := rvl_two r
    cases r1
    cases r2
    exact call_max2 hc pins s σ H _ us Q I rs ⟨i, j, rfl, k _ G H (Go.refl c) (.int _)⟩
  · cases e
theorem cd_min2 (hc : X.calm = true) : CallR X (.builtin "min") (rDL X.K min2) := by
  intro pins s σ H vs us Q I rs ⟨pp, ps, G, xs, d, c, r, e, k⟩
  unfold min2 at e
  split at e
  · next i j =>
    cases e
    obtain ⟨v, w, rfl, r1, r2⟩ := rvl_two r
    cases r1
    cases r2
    exact call_min2 hc pins s σ H _ us Q I rs ⟨i, j, rfl, k _ G H (Go.refl c) (.int _)⟩
  · cases e
end
end DL

set_option Elab.async false
set_option linter.all false
set_option maxRecDepth 100000
/-! D-layer, part d: statements, loops, lists of one's own, defs. -/
namespace DL
open PySem L2
variable [TBL]

inductive OutS where
  | nx (S : Sd)
  | rt (d : PyData)
  | bk (S : Sd)
  | ct (S : Sd)
abbrev SG := Sd → Pt → Option (OutS × Pt)
structure GoS (pp : Option Addr) (ps' : Pt) (S : Sd) (σ : L2.St) (G H : Hp) (S' : Sd) (σ' : L2.St) (G' H' : Hp) : Prop where
  gg : Same G G'
  cf : Cf pp ps' G' H'
  fresh : ∀ b o, G' b = some o → G b = none → H b = none ∨ Owned S σ b
  keep : ∀ b o, H b = some o → pp ≠ some b → ¬ Owned S σ b → NT o → H' b = some o
  own : ∀ b, Owned S' σ' b → H b = none ∨ Owned S σ b
  there : ∀ b, H' b = none → H b = none
section
variable {pp : Option Addr} {ps ps1 ps2 : Pt} {S S1 S2 : Sd} {σ σ1 σ2 : L2.St} {G H G1 H1 G2 H2 : Hp} {K : PySem.W.Frag}
theorem GoS.trans (a : GoS pp ps1 S σ G H S1 σ1 G1 H1) (b : GoS pp ps2 S1 σ1 G1 H1 S2 σ2 G2 H2) : GoS pp ps2 S σ G H S2 σ2 G2 H2 where
  gg := a.gg.trans b.gg
  cf := b.cf
  fresh := fun c o h n => by
    cases q : G1 c with
    | none =>
      rcases b.fresh c o h q with z | z
      · exact .inl (a.there c z)
      · exact a.own c z
    | some u => exact a.fresh c u q n
  keep := fun c o h hp ho nt => b.keep c o (a.keep c o h hp ho nt) hp (fun z => by
    rcases a.own c z with y | y
    · rw [h] at y
      cases y
    · exact ho y) nt
  own := fun c z => by
    rcases b.own c z with y | y
    · exact .inl (a.there c y)
    · exact a.own c y
  there := fun c z => a.there c (b.there c z)
theorem Go.toS (g : Go pp ps1 [] G H G1 H1) (h : ∀ b, Owned S1 σ1 b → Owned S σ b) : GoS pp ps1 S σ G H S1 σ1 G1 H1 :=
  ⟨g.gg, g.cf, fun b o x y => .inl (g.fresh b o x y), fun b o x y _ nt => g.keep b o x y (by simp) nt, fun b z => .inr (h b z), fun b z => g.none_of z⟩
theorem owned_nil {b : Addr} : ¬ Owned [] σ b := fun ⟨i, ds, h, _⟩ => by simp at h
theorem Go.toR (g : Go pp ps1 [] G H G1 H1) : GoS pp ps1 S σ G H [] [] G1 H1 := g.toS fun b z => absurd z owned_nil
theorem GoS.toGo (g : GoS pp ps1 S σ G H S1 σ1 G1 H1) (h : ∀ b, ¬ Owned S σ b) : Go pp ps1 [] G H G1 H1 :=
  ⟨g.gg, g.cf, fun b o x y => (g.fresh b o x y).resolve_right (h b), fun b o x y _ nt => g.keep b o x y (h b) nt, g.there⟩
theorem GoS.refl (c : Cf pp ps G H) (h : ∀ b, Owned S1 σ1 b → Owned S σ b) : GoS pp ps S σ G H S1 σ1 G H := (Go.refl c).toS h
/-- a name takes another datum: what is owned is owned still, or less -/
theorem owned_set {i : Nat} {sv : SV} {o : Option V} {b : Addr} (hsv : ∀ ds, sv ≠ .own ds) (h : Owned (S.set i sv) (σ.set i o) b) : Owned S σ b := by
  obtain ⟨j, ds, e1, e2⟩ := h
  by_cases hj : i = j
  · subst hj
    rw [List.getElem?_set] at e1
    split at e1
    · split at e1
      · exact absurd (Option.some.inj e1) (hsv ds)
      · cases e1
    · next n => exact absurd rfl n
  · rw [List.getElem?_set_ne hj] at e1 e2
    exact ⟨j, ds, e1, e2⟩
theorem dat_ne {d : PyData} (ds : List PyData) : SV.dat d ≠ .own ds := fun z => by cases z
theorem Sl.set {i : Nat} {d : PyData} {v : V} (s : Sl K pp G H S σ) (r : Rv K pp G v d) : Sl K pp G H (S.set i (.dat d)) (σ.set i (some v)) := by
  refine ⟨by simp [s.len], fun j sv e => ?_, fun j l ds es p e1 e2 e3 e4 => ?_⟩
  · by_cases hj : i = j
    · subst hj
      rw [List.getElem?_set] at e
      split at e
      · split at e
        · next hlt =>
          cases e
          refine ⟨some v, ?_, v, rfl, r⟩
          rw [List.getElem?_set, if_pos rfl, if_pos (by rw [← s.len]; exact hlt)]
        · cases e
      · next n => exact absurd rfl n
    · rw [List.getElem?_set_ne hj] at e
      obtain ⟨o, h1, h2⟩ := s.each j sv e
      exact ⟨o, by rw [List.getElem?_set_ne hj]; exact h1, h2⟩
  · have nj : i ≠ j := fun z => by
      subst z
      rw [List.getElem?_set] at e1
      split at e1
      · split at e1
        · cases e1
        · cases e1
      · next n => exact absurd rfl n
    have nl : i ≠ l := fun z => by
      subst z
      rw [List.getElem?_set] at e2
      split at e2
      · split at e2
        · cases e2
        · cases e2
      · next n => exact absurd rfl n
    rw [List.getElem?_set_ne nj] at e1 e3
    rw [List.getElem?_set_ne nl] at e2 e4
    exact s.apart j l ds es p e1 e2 e3 e4
end

def EndD (K : PySem.W.Frag) (D : Ends) (pp : Option Addr) (ps' : Pt) (S : Sd) (σ : L2.St) (G H : Hp) : OutS → Prop
  | .nx S' => ∀ σ' G' H', GoS pp ps' S σ G H S' σ' G' H' → Sl K pp G' H' S' σ' → D.nx σ' H'
  | .rt d => ∀ v G' H', GoS pp ps' S σ G H [] [] G' H' → Rv K pp G' v d → D.rt v H'
  | .bk S' => ∀ σ' G' H', GoS pp ps' S σ G H S' σ' G' H' → Sl K pp G' H' S' σ' → D.bk σ' H'
  | .ct S' => ∀ σ' G' H', GoS pp ps' S σ G H S' σ' G' H' → Sl K pp G' H' S' σ' → D.ct σ' H'
def TDS (K : PySem.W.Frag) (g : SG) : TS := fun D σ H => ∃ (pp : Option Addr) (ps : Pt) (G : Hp) (S : Sd) (r : OutS) (ps' : Pt), Cf pp ps G H ∧ Sl K pp G H S σ ∧ g S ps = some (r, ps') ∧ EndD K D pp ps' S σ G H r
abbrev PDS (X : Cx) (st : Stmt) (g : SG) : Prop := PS X st (TDS X.K g)
abbrev PDSs (X : Cx) (sts : List Stmt) (g : SG) : Prop := PSs X sts (TDS X.K g)
theorem EndD.back {K : PySem.W.Frag} {D : Ends} {pp : Option Addr} {ps1 ps' : Pt} {S S1 : Sd} {σ σ1 : L2.St} {G H G1 H1 : Hp} {r : OutS} (a : GoS pp ps1 S σ G H S1 σ1 G1 H1) (h : EndD K D pp ps' S σ G H r) : EndD K D pp ps' S1 σ1 G1 H1 r := by
  cases r with
  | nx S' => exact fun σ' G' H' g s => h σ' G' H' (a.trans g) s
  | rt d => exact fun v G' H' g s => h v G' H' (a.trans g) s
  | bk S' => exact fun σ' G' H' g s => h σ' G' H' (a.trans g) s
  | ct S' => exact fun σ' G' H' g s => h σ' G' H' (a.trans g) s
section
variable {X : Cx}
theorem ps_imp {st : Stmt} {t t' : TS} (h : PS X st t) (i : ∀ D σ H, t' D σ H → t D σ H) : PS X st t' := ⟨fun pins s σ H D I q => h.run pins s σ H D I (i D σ H q)⟩
theorem pss_imp {st : List Stmt} {t t' : TS} (h : PSs X st t) (i : ∀ D σ H, t' D σ H → t D σ H) : PSs X st t' := ⟨fun pins s σ H D I q => h.run pins s σ H D I (i D σ H q)⟩
def sRet (g : EG) : SG := fun S ps => bindP (g S ps) fun d p => some (.rt d, p)
theorem pds_ret {e : Expr} {g : EG} {pos : Pos} (h : PD X e g) : PDS X (.Return (some e) pos) (sRet g) := ps_imp (ps_ret h) fun D σ H ⟨pp, ps, G, S, r, ps', c, s, e, k⟩ => by
  obtain ⟨d, p1, e1, e⟩ := bindP_inv e
  cases e
  exact ⟨pp, ps, G, S, d, _, c, s, e1, fun v G' H' g' r' => k v G' H' g'.toR r'⟩
def sSet (i : Nat) (g : EG) : SG := fun S ps => bindP (g S ps) fun d p => some (.nx (S.set i (.dat d)), p)
theorem pds_set {i : Nat} {x : Str} {e : Expr} {g : EG} {pos' pos : Pos} (hN : X.N.Nodup) (hi : X.N[i]? = some x) (hx : Loc X.env.scope x) (h : PD X e g)
    (hf : X.fn x = true ∨ X.env.scope.names.lookup x = some .local := by first | exact .inl rfl | exact .inr rfl | assumption)
    (hs : swapsWithSole [.Name x pos'] e pos.line X.env = pure false := by rfl) (hw : swappedStores [.Name x pos'] e X.env = pure none := by rfl) (h1 : (assignEach [.Name x pos'] X.env).map (·.2) = [assign (.Name x pos') X.env] := by rfl) : PDS X (.Assign [.Name x pos'] e pos) (sSet i g) :=
  ps_imp (ps_asg h (pg_name hN hi hx hf) hs hw h1) fun D σ H ⟨pp, ps, G, S, r, ps', c, s, e, k⟩ => by
    obtain ⟨d, p1, e1, e⟩ := bindP_inv e
    cases e
    refine ⟨pp, ps, G, S, d, _, c, s, e1, fun v G' H' g' r' => ?_⟩
    exact k _ G' H' (g'.toS fun b z => owned_set dat_ne z) ((s.go g').set r')
def sSeq (a b : SG) : SG := fun S ps => match a S ps with
  | some (.nx S1, p) => b S1 p
  | some (.rt d, p) => some (.rt d, p)
  | some (.bk S1, p) => some (.bk S1, p)
  | some (.ct S1, p) => some (.ct S1, p)
  | none => none
theorem pds_seq {st : Stmt} {rest : List Stmt} {a b : SG} (ha : PDS X st a) (hb : PDSs X rest b) : PDSs X (st :: rest) (sSeq a b) := pss_imp (pss_cons ha hb) fun D σ H ⟨pp, ps, G, S, r, ps', c, s, e, k⟩ => by
  unfold sSeq at e
  split at e
  · next S1 p1 e1 => exact ⟨pp, ps, G, S, _, p1, c, s, e1, fun σ1 G1 H1 g1 s1 => ⟨pp, p1, G1, S1, r, ps', g1.cf, s1, e, EndD.back g1 k⟩⟩
  · next d p1 e1 =>
    cases e
    exact ⟨pp, ps, G, S, _, _, c, s, e1, k⟩
  · next d p1 e1 =>
    cases e
    exact ⟨pp, ps, G, S, _, _, c, s, e1, k⟩
  · next d p1 e1 =>
    cases e
    exact ⟨pp, ps, G, S, _, _, c, s, e1, k⟩
  · cases e
theorem pds_one {st : Stmt} {a : SG} (ha : PDS X st a) : PDSs X [st] a := pss_one ha
def sNil : SG := fun S ps => some (.nx S, ps)
theorem pds_nil : PDSs X [] sNil := pss_imp pss_nil fun D σ H ⟨pp, ps, G, S, r, ps', c, s, e, k⟩ => by
  cases e
  exact k σ G H (GoS.refl c fun b z => z) s
def sIf (t : BG) (a b : SG) : SG := fun S ps => bindP (t S ps) fun x p => if x then a S p else b S p
theorem pds_if {t : Expr} {sa sb : List Stmt} {g : BG} {a b : SG} {pos : Pos} (ht : PDT X t g) (ha : PDSs X sa a) (hb : PDSs X sb b) : PDS X (.If t sa sb pos) (sIf g a b) := ps_imp (ps_if ht ha hb) fun D σ H ⟨pp, ps, G, S, r, ps', c, s, e, k⟩ => by
  obtain ⟨x, p1, e1, e⟩ := bindP_inv e
  refine ⟨pp, ps, G, S, x, p1, c, s, e1, fun G1 H1 g1 => ?_⟩
  have g2 : GoS pp p1 S σ G H S σ G1 H1 := g1.toS fun b z => z
  cases x with
  | true => exact iteT ⟨pp, p1, G1, S, r, ps', g1.cf, s.go g1, e, EndD.back g2 k⟩
  | false => exact iteF ⟨pp, p1, G1, S, r, ps', g1.cf, s.go g1, e, EndD.back g2 k⟩

/-! ### a walk over data -/
def tiD (K : PySem.W.Frag) (g : EG) : TI := fun σ H R => ∃ (pp : Option Addr) (ps : Pt) (G : Hp) (S : Sd) (d : PyData) (ps' : Pt), Cf pp ps G H ∧ Sl K pp G H S σ ∧ g S ps = some (d, ps') ∧ (∃ ds, d = .list ds ∨ d = .tuple ds) ∧
  ∀ a G' H', Go pp ps' [] G H G' H' → Rv K pp G' (.ref a) d → (∀ ds, d = .list ds → R (Itl K a) H') ∧ (∀ ds, d = .tuple ds → R (Itt K a) H')
theorem pi_data {tg l : Expr} {g : EG} (h : PD X l g) : PI X tg l (tiD X.K g) := by
  refine ⟨fun pins s σ H R I hq => ?_⟩
  obtain ⟨pp, ps, G, S, d, ps', c, sl, e, ⟨ds, hd⟩, k⟩ := hq
  rcases hd with rfl | rfl
  · refine (pi_list h).run pins s σ H R I ⟨pp, ps, G, S, _, ps', c, sl, e, fun v G' H' g' r' => ?_⟩
    obtain ⟨a, xs, rfl, hx, ha⟩ := rv_lst r'
    exact ⟨a, rfl, ⟨xs, cf_l g'.cf hx⟩, (k a G' H' g' r').1 ds rfl⟩
  · refine (pi_tup h).run pins s σ H R I ⟨pp, ps, G, S, _, ps', c, sl, e, fun v G' H' g' r' => ?_⟩
    obtain ⟨a, xs, rfl, hx, ha⟩ := rv_tup r'
    exact ⟨a, rfl, ⟨xs, cf_t g'.cf hx⟩, (k a G' H' g' r').2 ds rfl⟩
/-- what is walked, as one form: at each turn the item of the list ds that is due, as long as the view stands -/
structure Wk (K : PySem.W.Frag) (pp : Option Addr) (G : Hp) (J : It) (ds : List PyData) : Prop where
  go : ∀ i H', Same G H' → i < ds.length → J.go i H'
  stop : ∀ i H', Same G H' → ds.length ≤ i → J.stop i H'
  yld : ∀ i H' x H'' d, Same G H' → ds[i]? = some d → J.yld i H' x H'' → H'' = H' ∧ Rv K pp G x d
theorem wk_list {K : PySem.W.Frag} {pp : Option Addr} {G : Hp} {a : Addr} {ds : List PyData} (h : Rv K pp G (.ref a) (.list ds)) : Wk K pp G (Itl K a) ds := by
  obtain ⟨a', xs, e, hx, ha⟩ := rv_lst h
  cases e
  refine ⟨fun i H' g hi => ?_, fun i H' g hi => ⟨xs, .inl (same_l g hx), by rw [ha.length]; exact hi⟩, fun i H' x H'' d g hd hy => ?_⟩
  · obtain ⟨v, hv, _⟩ := ha.get (List.getElem?_eq_getElem hi)
    exact ⟨xs, v, .inl (same_l g hx), hv⟩
  · obtain ⟨v, hv, r⟩ := ha.get hd
    have := hy.2 xs (.inl (same_l g hx))
    rw [hv] at this
    cases this
    exact ⟨hy.1, r⟩
theorem wk_tup {K : PySem.W.Frag} {pp : Option Addr} {G : Hp} {a : Addr} {ds : List PyData} (h : Rv K pp G (.ref a) (.tuple ds)) : Wk K pp G (Itt K a) ds := by
  obtain ⟨a', xs, e, hx, ha⟩ := rv_tup h
  cases e
  refine ⟨fun i H' g hi => ?_, fun i H' g hi => ⟨xs, same_t g hx, by rw [ha.length]; exact hi⟩, fun i H' x H'' d g hd hy => ?_⟩
  · obtain ⟨v, hv, _⟩ := ha.get (List.getElem?_eq_getElem hi)
    exact ⟨xs, v, same_t g hx, hv⟩
  · obtain ⟨v, hv, r⟩ := ha.get hd
    have := hy.2 xs (same_t g hx)
    rw [hv] at this
    cases this
    exact ⟨hy.1, r⟩
def rangeD (n : Nat) : List PyData := (List.range n).map fun (i : Nat) => PyData.int (i : Int)
theorem wk_range {K : PySem.W.Frag} {pp : Option Addr} {G : Hp} {n : Nat} : Wk K pp G (Itr 0 n) (rangeD n) := by
  have hl : (rangeD n).length = n := by
    unfold rangeD
    rw [List.length_map, List.length_range]
  refine ⟨fun i H' g hi => ?_, fun i H' g hi => ?_, fun i H' x H'' d g hd hy => ?_⟩
  · rw [hl] at hi
    exact hi
  · rw [hl] at hi
    exact hi
  · obtain ⟨h1, h2⟩ := hy
    refine ⟨h1, ?_⟩
    subst h2
    unfold rangeD at hd
    rw [List.getElem?_map] at hd
    obtain ⟨j, hj, rfl⟩ := map_inv hd
    obtain ⟨_, e⟩ := List.getElem?_eq_some_iff.mp hj
    rw [List.getElem_range] at e
    subst e
    rw [Int.zero_add]
    exact .int _
/-- a walk's judgement: PI with the items that are due -/
def tiW (K : PySem.W.Frag) (g : Sd → Pt → Option (List PyData × Pt)) : TI := fun σ H R => ∃ (pp : Option Addr) (ps : Pt) (G : Hp) (S : Sd) (ds : List PyData) (ps' : Pt), Cf pp ps G H ∧ Sl K pp G H S σ ∧ g S ps = some (ds, ps') ∧
  ∀ J G' H', Go pp ps' [] G H G' H' → Wk K pp G' J ds → R J H'
abbrev PDI (X : Cx) (tg l : Expr) (g : AG) : Prop := PI X tg l (tiW X.K g)
theorem pi_imp {tg l : Expr} {t t' : TI} (h : PI X tg l t) (i : ∀ σ H R, t' σ H R → t σ H R) : PI X tg l t' := ⟨fun pins s σ H R I q => h.run pins s σ H R I (i σ H R q)⟩
def iOf (g : EG) : AG := fun S ps => bindP (g S ps) fun d p => (items d).map fun ds => (ds, p)
theorem pdi_data {tg l : Expr} {g : EG} (h : PD X l g) : PDI X tg l (iOf g) := pi_imp (pi_data h) fun σ H R ⟨pp, ps, G, S, ds, ps', c, s, e, k⟩ => by
  obtain ⟨d, p1, e1, e⟩ := bindP_inv e
  obtain ⟨ds', e2, e⟩ := map_inv e
  cases e
  refine ⟨pp, ps, G, S, d, _, c, s, e1, ?_, fun a G' H' g' r' => ⟨fun es ed => ?_, fun es ed => ?_⟩⟩
  · cases d with
    | list l => exact ⟨l, .inl rfl⟩
    | tuple l => exact ⟨l, .inr rfl⟩
    | _ => cases e2
  · subst ed
    cases e2
    exact k _ G' H' g' (wk_list r')
  · subst ed
    cases e2
    exact k _ G' H' g' (wk_tup r')
def iRange (gs : AG) : AG := fun S ps => match gs S ps with
  | some ([.int j], p) => if decide (-(2 ^ 62) ≤ j) && decide (j < 2 ^ 62) then some (rangeD j.toNat, p) else none
  | _ => none
theorem pdi_range1 {tg a : Expr} {gs : AG} {p pos : Pos} (hg : Gl X "range") (hm : X.mg "range" = none) (ha : PDA X [a] gs) (hs : starEach [a] X.env = [(false, eval a X.env)] := by rfl) : PDI X tg (.Call (.Name "range" p) [a] [] pos) (iRange gs) :=
  pi_imp (pi_range1 hg hm ha hs) fun σ H R ⟨pp, ps, G, S, ds, ps', c, s, e, k⟩ => by
    unfold iRange at e
    split at e
    · next j p1 e1 =>
      obtain ⟨h1, e⟩ := ite_inv e
      cases e
      rw [Bool.and_eq_true] at h1
      refine ⟨pp, ps, G, S, _, _, c, s, e1, fun vs G' H' g' r' => ?_⟩
      obtain ⟨v, rfl, r⟩ := rvl_one r'
      cases r
      exact ⟨j, rfl, of_decide_eq_true h1.1, of_decide_eq_true h1.2, k _ G' H' g' wk_range⟩
    · cases e
/-! ### targets -/
/-- a target: which names take what of an item -/
abbrev Tgt := PyData → Sd → Option Sd
def tgD (K : PySem.W.Frag) (is : List Nat) (t : Tgt) : TG := fun v σ H Q => ∃ (pp : Option Addr) (ps : Pt) (G : Hp) (S : Sd) (d : PyData) (S' : Sd), Cf pp ps G H ∧ Sl K pp G H S σ ∧ Rv K pp G v d ∧ t d S = some S' ∧
  ∀ σ', Sl K pp G H S' σ' → (∀ b, Owned S' σ' b → Owned S σ b) → σ'.length = σ.length → (∀ j, j ∉ is → σ'[j]? = σ[j]?) → Q σ' H
abbrev PDG (X : Cx) (tg : Expr) (is : List Nat) (t : Tgt) : Prop := PG X tg (tgD X.K is t)
def tName (i : Nat) : Tgt := fun d S => some (S.set i (.dat d))
theorem pg_imp {tg : Expr} {t t' : TG} (h : PG X tg t) (i : ∀ v σ H Q, t' v σ H Q → t v σ H Q) : PG X tg t' := ⟨fun pins s σ H v u Q I r q => h.run pins s σ H v u Q I r (i v σ H Q q)⟩
theorem pdg_name {i : Nat} {x : Str} {pos : Pos} (hN : X.N.Nodup) (hi : X.N[i]? = some x) (hx : Loc X.env.scope x) (hf : X.fn x = true ∨ X.env.scope.names.lookup x = some .local := by first | exact .inl rfl | exact .inr rfl | assumption) : PDG X (.Name x pos) [i] (tName i) :=
  pg_imp (pg_name hN hi hx hf) fun v σ H Q ⟨pp, ps, G, S, d, S', c, s, r, e, k⟩ => by
    cases e
    exact k _ (s.set r) (fun b z => owned_set dat_ne z) (by simp) fun j hj => List.getElem?_set_ne (by intro z; subst z; simp at hj)
/-! ### for -/
def forGo (t : Tgt) (body : SG) : List PyData → SG
  | [], S, ps => some (.nx S, ps)
  | x :: xs, S, ps => match t x S with
    | none => none
    | some S0 => match body S0 ps with
      | some (.nx S1, p) => forGo t body xs S1 p
      | some (.ct S1, p) => forGo t body xs S1 p
      | some (.bk S1, p) => some (.nx S1, p)
      | some (.rt d, p) => some (.rt d, p)
      | none => none
def sFor (it : AG) (t : Tgt) (body : SG) : SG := fun S ps => bindP (it S ps) fun ds p => forGo t body ds S p
theorem pds_for {tg iter : Expr} {sb : List Stmt} {it : AG} {is : List Nat} {t : Tgt} {body : SG} {pos : Pos} (hp : PassesOwn (model X.prog X.w) X.A X.env X.xe) (hc : X.calm = true) (hi : PDI X tg iter it) (hg : PDG X tg is t) (hb : PDSs X sb body)
    (hs : ∀ x, foldedSetIterable iter X.env x = pure x := by intro _; rfl) : PDS X (.For tg iter sb [] pos) (sFor it t body) :=
  ps_imp (ps_for hp hc hi hg hb hs) fun D σ H ⟨pp, ps, G, S, r, ps', c, s, e, k⟩ => by
    obtain ⟨ds, p1, e1, e⟩ := bindP_inv e
    refine ⟨pp, ps, G, S, ds, p1, c, s, e1, fun J G0 H0 g0 wk => ?_⟩
    have g0s : GoS pp p1 S σ G H S σ G0 H0 := g0.toS fun b z => z
    refine ⟨fun i m σ1 H1 => ∃ S1 q G1, GoS pp q S σ G H S1 σ1 G1 H1 ∧ Same G0 G1 ∧ Sl X.K pp G1 H1 S1 σ1 ∧ forGo t body (ds.drop i) S1 q = some (r, ps') ∧ m = ds.length - i ∧ i ≤ ds.length,
      ⟨ds.length, S, p1, G0, g0s, Same.refl G0, s.go g0, by rw [List.drop_zero]; exact e, by omega, by omega⟩, fun i m σ1 H1 hW => ?_⟩
    obtain ⟨S1, q, G1, ga, gb, s1, ef, em, hi⟩ := hW
    have up : Same G0 H1 := gb.trans ga.cf.ex
    by_cases hlt : i < ds.length
    · have ed : ds.drop i = ds[i] :: ds.drop (i + 1) := List.drop_eq_getElem_cons hlt
      rw [ed] at ef
      unfold forGo at ef
      cases et : t ds[i] S1 with
      | none =>
        rw [et] at ef
        cases ef
      | some S0 =>
        rw [et] at ef
        refine .inr ⟨wk.go i H1 up hlt, fun σ' H' => ∃ S2 q2 G2, GoS pp q2 S σ G H S2 σ' G2 H' ∧ Same G0 G2 ∧ Sl X.K pp G2 H' S2 σ' ∧ forGo t body (ds.drop (i + 1)) S2 q2 = some (r, ps'), fun σ' H' hn => ?_, fun x H' hy => ?_⟩
        · obtain ⟨S2, q2, G2, a1, a2, a3, a4⟩ := hn
          exact ⟨m - 1, by omega, S2, q2, G2, a1, a2, a3, a4, by omega, by omega⟩
        · obtain ⟨rfl, rx⟩ := wk.yld i H1 x H' _ up (List.getElem?_eq_getElem hlt) hy
          refine ⟨pp, q, G1, S1, _, S0, ga.cf, s1, Rv.mono gb _ _ rx, et, fun σ2 s2 ho _ _ => ?_⟩
          have gc : GoS pp q S σ G H S0 σ2 G1 H' := ga.trans (GoS.refl ga.cf ho)
          dsimp only at ef
          split at ef
          · next S2 p2 eb => exact ⟨pp, q, G1, S0, _, p2, ga.cf, s2, eb, fun σ3 G3 H3 g3 s3 => ⟨S2, p2, G3, gc.trans g3, gb.trans g3.gg, s3, ef⟩⟩
          · next S2 p2 eb => exact ⟨pp, q, G1, S0, _, p2, ga.cf, s2, eb, fun σ3 G3 H3 g3 s3 => ⟨S2, p2, G3, gc.trans g3, gb.trans g3.gg, s3, ef⟩⟩
          · next S2 p2 eb =>
            cases ef
            exact ⟨pp, q, G1, S0, _, _, ga.cf, s2, eb, fun σ3 G3 H3 g3 s3 => k σ3 G3 H3 (gc.trans g3) s3⟩
          · next d p2 eb =>
            cases ef
            exact ⟨pp, q, G1, S0, _, _, ga.cf, s2, eb, fun v G3 H3 g3 r3 => k v G3 H3 (gc.trans g3) r3⟩
          · cases ef
    · have ei : i = ds.length := by omega
      subst ei
      rw [List.drop_length] at ef
      cases ef
      exact .inl ⟨wk.stop _ H1 up (Nat.le_refl _), k σ1 G1 H1 ga s1⟩
/-! ### a def -/
def startD (n : Nat) (ds : List PyData) : Sd := ds.map .dat ++ List.replicate (n - ds.length) .un
def runF (n : Nat) (g : SG) (ds : List PyData) (ps : Pt) : Option (PyData × Pt) := match g (startD n ds) ps with
  | some (.rt d, p) => some (d, p)
  | some (.nx _, p) => some (.none, p)
  | _ => none
theorem get_rep {α : Type} {n i : Nat} {a x : α} (h : (List.replicate n a)[i]? = some x) : x = a := by
  rw [List.getElem?_replicate] at h
  split at h
  · exact (Option.some.inj h).symm
  · cases h
theorem start_get {n : Nat} {ds : List PyData} {i : Nat} {sv : SV} (h : (startD n ds)[i]? = some sv) : (∃ d, ds[i]? = some d ∧ sv = .dat d) ∨ sv = .un ∧ ds.length ≤ i := by
  unfold startD at h
  by_cases hi : i < ds.length
  · rw [List.getElem?_append_left (by rw [List.length_map]; exact hi), List.getElem?_map] at h
    obtain ⟨d, h1, rfl⟩ := map_inv h
    exact .inl ⟨d, h1, rfl⟩
  · rw [List.getElem?_append_right (by rw [List.length_map]; omega)] at h
    exact .inr ⟨get_rep h, by omega⟩
theorem sl_start {K : PySem.W.Frag} {pp : Option Addr} {G H : Hp} {N : List Str} {vs : List V} {ds : List PyData} (r : RvL K pp G vs ds) (hl : vs.length ≤ N.length) : Sl K pp G H (startD N.length ds) (L2.start N vs) := by
  have hlen := r.length
  refine ⟨?_, fun i sv e => ?_, fun i j ds' es p e1 => ?_⟩
  · unfold startD L2.start
    simp only [List.length_append, List.length_map, List.length_replicate]
    omega
  · rcases start_get e with ⟨d, h1, rfl⟩ | ⟨rfl, hi⟩
    · obtain ⟨v, hv, rv⟩ := r.get h1
      refine ⟨some v, ?_, v, rfl, rv⟩
      have hi : i < vs.length := (List.getElem?_eq_some_iff.mp hv).1
      unfold L2.start
      rw [List.getElem?_append_left (by rw [List.length_map]; exact hi), List.getElem?_map, hv]
      rfl
    · have hi2 : i < (L2.start N vs).length := by
        have : i < (startD N.length ds).length := (List.getElem?_eq_some_iff.mp e).1
        unfold startD at this
        unfold L2.start
        simp only [List.length_append, List.length_map, List.length_replicate] at this ⊢
        omega
      exact ⟨_, List.getElem?_eq_getElem hi2, True.intro⟩
  · rcases start_get e1 with ⟨d, _, z⟩ | ⟨z, _⟩ <;> cases z
theorem start_own {n : Nat} {ds : List PyData} {σ : L2.St} {b : Addr} : ¬ Owned (startD n ds) σ b := fun ⟨i, es, h, _⟩ => by
  rcases start_get h with ⟨d, _, z⟩ | ⟨z, _⟩ <;> cases z
section
variable {P : Program} {w : World} {K : PySem.W.Frag} {mg : Str → Option Value} {base : Heap}
theorem fn_of_body {x qual : Str} {st : Stmt} {f : Addr} {fd : FuncData} {N ps : List Str} {k : Nat} {g : SG} (F : Fun K x qual st f fd) (S : FnScope N ps (defScope st)) (hn : ps.length ≤ N.length)
    (hbody : ∀ (cdv : Value) (A : Around) (outer : List Env) (s : Shared) (H : Hp) (E : XK), Room k (A.deeper (PyProof.Rows.envOfC qual (defScope st) s.heap.objs.size f cdv)) → PDSs (cxOf CX0 P w K mg base N qual (defScope st) f cdv A outer s H E).nox (defBody st) g) :
    FnD P w K mg base (k + 1) f fd ps (runF N.length g) := by
  refine F.ok S (fun vs H Q E h => ?_) (fun cdv A outer s H vs Q E hr h => ?_)
  · obtain ⟨pp, p, G, ds, d, p', hl, c, r, e, q⟩ := h
    rw [r.length]
    exact hl
  · obtain ⟨pp, p, G, ds, d, p', hl, c, r, e, q⟩ := h
    refine ⟨_, hbody cdv A outer s H E hr, ?_⟩
    have hvl : vs.length ≤ N.length := by
      rw [r.length, hl]
      exact hn
    unfold runF at e
    split at e
    · next d' p1 eg =>
      cases e
      exact ⟨pp, p, G, _, _, _, c, sl_start r hvl, eg, fun v G' H' g' r' => q v G' H' (g'.toGo fun b => start_own) r'⟩
    · next S' p1 eg =>
      cases e
      exact ⟨pp, p, G, _, _, _, c, sl_start r hvl, eg, fun σ' G' H' g' s' => q _ G' H' (g'.toGo fun b => start_own) .non⟩
    · cases e
end
end
end DL

set_option Elab.async false
set_option linter.all false
set_option maxRecDepth 100000
/-! D-layer, part e: comprehensions, own lists, slices, isinstance. -/
namespace DL
open PySem L2
variable [TBL]

def wipeD (S : Sd) : List Nat → Sd
  | [] => S
  | v :: vs => (wipeD S vs).set v .un
theorem wipe_get (σ : L2.St) (j : Nat) : ∀ vs : List Nat, (wipe σ vs)[j]? = if j ∈ vs then (σ[j]?).map (fun _ => none) else σ[j]?
  | [] => by simp [wipe]
  | v :: vs => by
    have ih := wipe_get σ j vs
    unfold wipe
    rw [List.getElem?_set]
    by_cases h : v = j
    · subst h
      rw [if_pos rfl, wipe_length, if_pos (show v ∈ v :: vs from List.mem_cons_self)]
      by_cases hl : v < σ.length
      · rw [if_pos hl, List.getElem?_eq_getElem hl]
        rfl
      · rw [if_neg hl, List.getElem?_eq_none (by omega)]
        rfl
    · rw [if_neg h, ih]
      have e : (j ∈ v :: vs) = (j ∈ vs) := by
        simp only [List.mem_cons, eq_iff_iff]
        exact ⟨fun z => z.resolve_left fun y => h y.symm, .inr⟩
      simp only [e]
theorem wipe_ext {σ σ' : L2.St} {vs is : List Nat} (hs : ∀ i ∈ is, i ∈ vs) (h : ∀ j, j ∉ is → σ'[j]? = (wipe σ vs)[j]?) (hl : σ'.length = (wipe σ vs).length) : wipe σ' vs = wipe σ vs := by
  apply List.ext_getElem?
  intro j
  rw [wipe_get, wipe_get]
  by_cases hj : j ∈ vs
  · rw [if_pos hj, if_pos hj]
    rw [wipe_length] at hl
    by_cases hlt : j < σ.length
    · rw [List.getElem?_eq_getElem hlt, List.getElem?_eq_getElem (by omega)]
      rfl
    · rw [List.getElem?_eq_none (by omega), List.getElem?_eq_none (by omega)]
  · rw [if_neg hj, if_neg hj, h j fun z => hj (hs j z), wipe_get, if_neg hj]
section
variable {K : PySem.W.Frag} {pp : Option Addr} {ps q : Pt} {G H G0 H0 G1 H1 : Hp} {S : Sd} {σ : L2.St}
theorem Sl.wipe1 {v : Nat} (s : Sl K pp G H S σ) : Sl K pp G H (S.set v .un) (σ.set v none) := by
  refine ⟨by simp [s.len], fun j sv e => ?_, fun j l ds es p e1 e2 e3 e4 => ?_⟩
  · by_cases hj : v = j
    · subst hj
      rw [List.getElem?_set] at e
      split at e
      · split at e
        · next hlt =>
          cases e
          refine ⟨none, ?_, True.intro⟩
          rw [List.getElem?_set, if_pos rfl, if_pos (by rw [← s.len]; exact hlt)]
        · cases e
      · next n => exact absurd rfl n
    · rw [List.getElem?_set_ne hj] at e
      obtain ⟨o, h1, h2⟩ := s.each j sv e
      exact ⟨o, by rw [List.getElem?_set_ne hj]; exact h1, h2⟩
  · have nj : v ≠ j := fun z => by
      subst z
      rw [List.getElem?_set] at e1
      split at e1
      · split at e1
        · cases e1
        · cases e1
      · next n => exact absurd rfl n
    have nl : v ≠ l := fun z => by
      subst z
      rw [List.getElem?_set] at e2
      split at e2
      · split at e2
        · cases e2
        · cases e2
      · next n => exact absurd rfl n
    rw [List.getElem?_set_ne nj] at e1 e3
    rw [List.getElem?_set_ne nl] at e2 e4
    exact s.apart j l ds es p e1 e2 e3 e4
theorem Sl.wipe (s : Sl K pp G H S σ) : ∀ vs : List Nat, Sl K pp G H (wipeD S vs) (L2.wipe σ vs)
  | [] => s
  | _ :: vs => (Sl.wipe s vs).wipe1
/-- an object beside the view that is new since H0 may change -/
theorem Go.bump {D : Addr} {o : HO} {xs : List V} (nt : NT o) (hD : H1 D = some (.lst xs)) (g : Go pp q [] G0 H0 G1 H1) (h0 : H0 D = none) (h1 : G1 D = none) (hp : pp ≠ some D) : Go pp q [] G0 H0 G1 (upd H1 D o) := by
  refine ⟨g.gg, ⟨fun b x e => ?_, fun a ha => ⟨(g.cf.pot a ha).1, ?_⟩, tab_upd hD g.cf.tb, g.cf.vt, ot_upd nt g.cf.ot⟩, g.fresh, fun b x e hb ho nt => ?_, fun b e => ?_⟩
  · rw [upd_ne (ne_of_none e h1)]
    exact g.cf.ex b x e
  · have hne : a ≠ D := fun z => hp (z ▸ ha)
    rw [upd_ne hne]
    exact (g.cf.pot a ha).2
  · rw [upd_ne (ne_of_none e h0)]
    exact g.keep b x e hb ho nt
  · by_cases hb : b = D
    · subst hb
      exact h0
    · rw [upd_ne hb] at e
      exact g.there b e
/-- .. and be put into the view -/
theorem Go.show {D : Addr} {o : HO} (nt : NT o) (g : Go pp q [] G0 H0 G1 H1) (h0 : H0 D = none) (h1 : G1 D = none) (hp : pp ≠ some D) (hD : H1 D = some o) : Go pp q [] G0 H0 (upd G1 D o) H1 := by
  refine ⟨g.gg.trans (same_new h1), ⟨fun b x e => ?_, fun a ha => ⟨?_, (g.cf.pot a ha).2⟩, g.cf.tb, vt_upd nt g.cf.vt, g.cf.ot⟩, fun b x e n => ?_, g.keep, g.there⟩
  · by_cases hb : b = D
    · subst hb
      rw [upd_same] at e
      cases e
      exact hD
    · rw [upd_ne hb] at e
      exact g.cf.ex b x e
  · have hne : a ≠ D := fun z => hp (z ▸ ha)
    rw [upd_ne hne]
    exact (g.cf.pot a ha).1
  · by_cases hb : b = D
    · subst hb
      exact h0
    · rw [upd_ne hb] at e
      exact g.fresh b x e n
theorem Cf.pne {D : Addr} (c : Cf pp ps G H) (h : H D = none) : pp ≠ some D := fun z => by
  rw [(c.pot D z).2] at h
  cases h
theorem Go.gnone {D : Addr} {o : HO} (g : Go pp q [] G H G1 H1) (h : G D = none) (hD : H D = some o) : G1 D = none := by
  cases e : G1 D with
  | none => rfl
  | some u =>
    have := g.fresh D u e h
    rw [hD] at this
    cases this
end
/-! ### list comprehensions -/
def lcStep (t : Tgt) (test : BG) (elt : EG) (S : Sd) (x : PyData) (ps : Pt) : Option (Option PyData × Pt) := match t x S with
  | none => none
  | some S1 => bindP (test S1 ps) fun b p => if b then bindP (elt S1 p) fun y p' => some (some y, p') else some (none, p)
def lcGo (f : PyData → Pt → Option (Option PyData × Pt)) : List PyData → Pt → List PyData → Option (List PyData × Pt)
  | [], ps, acc => some (acc, ps)
  | x :: xs, ps, acc => bindP (f x ps) fun o p => lcGo f xs p (match o with
    | some y => acc ++ [y]
    | none => acc)
def eLc (it : AG) (t : Tgt) (test : BG) (elt : EG) (vs : List Nat) : EG := fun S ps => bindP (it S ps) fun ds p => if fitsL ds then bindP (lcGo (lcStep t test elt (wipeD S vs)) ds p []) fun acc p' => some (.list acc, p') else none
def bYes : BG := fun _ ps => some (true, ps)
abbrev PDTs (X : Cx) (es : List Expr) (g : BG) : Prop := PTs X es (TDT X.K g)
section
variable {X : Cx}
theorem pdts_nil : PDTs X [] bYes := ⟨fun pins s σ H Q I ⟨pp, ps, G, S, b, ps', c, sl, e, k⟩ => by
  cases e
  exact pts_nil.run pins s σ H Q I (k G H (Go.refl c))⟩
theorem pdts_one {c : Expr} {g : BG} (h : PDT X c g) : PDTs X [c] g := pts_one h
theorem lc_data {it : AG} {is : List Nat} {t : Tgt} {test : BG} {elt : EG} {vs : List Nat} (hv : ∀ i ∈ is, i ∈ vs) (K : PySem.W.Frag) (σ : L2.St) (H : Hp) (Q : VK) (h : TD K (eLc it t test elt vs) σ H Q) :
    tLc (tiW K it) (tgD K is t) (TDT K test) (TD K elt) vs σ H Q := by
  obtain ⟨pp, ps, G, S, d, ps', c, s, e, k⟩ := h
  obtain ⟨ds, p1, e1, e⟩ := bindP_inv e
  split at e
  · next hf =>
    obtain ⟨out, p2, e2, e⟩ := bindP_inv e
    cases e
    refine ⟨pp, ps, G, S, ds, p1, c, s, e1, fun J G0 H0 g0 wk D hD => ?_⟩
    have hp : pp ≠ some D := g0.cf.pne hD
    have hG0 : G0 D = none := g0.cf.ex.free hD
    have s0 : Sl K pp G0 H0 (wipeD S vs) (L2.wipe σ vs) := (s.go g0).wipe vs
    refine ⟨fun i m H1 => ∃ q G1 acc accV, Go pp q [] G0 H0 G1 H1 ∧ H1 D = some (.lst accV) ∧ G1 D = none ∧ RvL K pp G1 accV acc ∧ lcGo (lcStep t test elt (wipeD S vs)) (ds.drop i) q acc = some (out, ps') ∧ acc.length ≤ i ∧ m = ds.length - i ∧ i ≤ ds.length,
      ⟨ds.length, p1, G0, [], [], Go.hide g0.cf hD, upd_same, hG0, .nil, by rw [List.drop_zero]; exact e2, Nat.le_refl _, by omega, by omega⟩, fun i m H1 hW => ?_⟩
    obtain ⟨q, G1, acc, accV, ga, hD1, hG1, ra, ef, hla, em, hi⟩ := hW
    have up : Same G0 H1 := ga.gg.trans ga.cf.ex
    by_cases hlt : i < ds.length
    · have ed : ds.drop i = ds[i] :: ds.drop (i + 1) := List.drop_eq_getElem_cons hlt
      rw [ed] at ef
      unfold lcGo at ef
      obtain ⟨o, q1, ex, ef⟩ := bindP_inv ef
      refine .inr ⟨wk.go i H1 up hlt, fun H' => ∃ q2 G2 acc2 accV2, Go pp q2 [] G0 H0 G2 H' ∧ H' D = some (.lst accV2) ∧ G2 D = none ∧ RvL K pp G2 accV2 acc2 ∧ lcGo (lcStep t test elt (wipeD S vs)) (ds.drop (i + 1)) q2 acc2 = some (out, ps') ∧ acc2.length ≤ i + 1, fun H' hn => ?_, fun x H' hy => ?_⟩
      · obtain ⟨q2, G2, acc2, accV2, a1, a2, a3, a4, a5, a6⟩ := hn
        exact ⟨m - 1, by omega, q2, G2, acc2, accV2, a1, a2, a3, a4, a5, a6, by omega, by omega⟩
      · obtain ⟨rfl, rx⟩ := wk.yld i H1 x H' _ up (List.getElem?_eq_getElem hlt) hy
        unfold lcStep at ex
        cases et : t ds[i] (wipeD S vs) with
        | none =>
          rw [et] at ex
          cases ex
        | some S1 =>
          rw [et] at ex
          obtain ⟨b, q2, eb, ex⟩ := bindP_inv ex
          refine ⟨pp, q, G1, wipeD S vs, _, S1, ga.cf, s0.go ga, Rv.mono ga.gg _ _ rx, et, fun σ2 s2 _ hl2 hj => ⟨wipe_ext hv hj hl2, ?_⟩⟩
          refine ⟨pp, q, G1, S1, b, q2, ga.cf, s2, eb, fun G2 H2 g2 => ?_⟩
          have hD2 : H2 D = some (.lst accV) := g2.keep D _ hD1 hp (by simp) nt_lst
          have hG2 : G2 D = none := g2.gnone hG1 hD1
          cases b with
          | true =>
            obtain ⟨y, q3, ey, ex⟩ := bindP_inv ex
            cases ex
            refine iteT ⟨pp, q2, G2, S1, y, _, g2.cf, s2.go g2, ey, fun v G3 H3 g3 r3 => ⟨accV, g3.keep D _ hD2 hp (by simp) nt_lst, ?_, ?_⟩⟩
            · have h1 := fits_size hf
              rw [ra.length]
              omega
            · have hG3 : G3 D = none := g3.gnone hG2 hD2
              exact ⟨_, G3, acc ++ [y], accV ++ [v], Go.bump nt_lst (g3.keep D _ hD2 hp (by simp) nt_lst) ((ga.trans g2).trans g3) hD hG3 hp, upd_same, hG3, (RvL.mono (g2.gg.trans g3.gg) _ _ ra).app (.cons r3 .nil), ef, by rw [List.length_append]; simp; omega⟩
          | false =>
            cases ex
            exact iteF ⟨_, G2, acc, accV, ga.trans g2, hD2, hG2, RvL.mono g2.gg _ _ ra, ef, by omega⟩
    · have ei : i = ds.length := by omega
      subst ei
      rw [List.drop_length] at ef
      cases ef
      refine .inl ⟨wk.stop _ H1 up (Nat.le_refl _), ?_⟩
      have gs := Go.show nt_lst ga hD hG1 hp hD1
      exact k _ _ _ (g0.trans gs) (.lst (.inl upd_same) (RvL.mono (same_new hG1) _ _ ra))
  · cases e
theorem pd_lc {elt tg iter : Expr} {ifs : List Expr} {scope : Scope} {own : List (Str × Nat)} {pos : Pos} {it : AG} {is : List Nat} {t : Tgt} {test : BG} {ge : EG} (hc : X.calm = true) (hN : X.N.Nodup) (hi : PDI X tg iter it) (ok : BlkOk X.N X.env.scope scope own)
    (hg : ∀ (s : Shared) (H : Hp) (C : Addr) (cl : List (Str × Addr)) (fp : List Addr), PDG (X.blk s H scope (compEnvC scope cl C X.env) fp) tg is t)
    (ht : ∀ (s : Shared) (H : Hp) (C : Addr) (cl : List (Str × Addr)) (fp : List Addr), PDTs (X.blk s H scope (compEnvC scope cl C X.env) fp) ifs test)
    (he : ∀ (s : Shared) (H : Hp) (C : Addr) (cl : List (Str × Addr)) (fp : List Addr), PD (X.blk s H scope (compEnvC scope cl C X.env) fp) elt ge)
    (hv : ∀ i ∈ is, i ∈ own.map (·.2)) (hs : ∀ x, foldedSetIterable iter X.env x = pure x := by intro _; rfl) : PD X (.ListComp elt [⟨tg, iter, ifs, 0⟩] scope pos) (eLc it t test ge (own.map (·.2))) :=
  pe_imp (pe_lc hc hN hi ok hg ht he hs) fun σ H Q h => lc_data hv X.K σ H Q h
end
end DL

set_option Elab.async false
set_option linter.all false
set_option maxRecDepth 100000
/-! D-layer, part f: lists of one's own, slices, isinstance, two names at once. -/
namespace DL
open PySem L2
variable [TBL]
section
variable {K : PySem.W.Frag} {pp : Option Addr} {ps q : Pt} {G H G1 H1 : Hp} {S : Sd} {σ : L2.St}
/-- the slots but the i-th, at a heap that keeps what they hold -/
theorem Sl.setOwn {i : Nat} {p : Addr} {vs : List V} {ds : List PyData} (s : Sl K pp G H S σ) (hgg : Same G G1) (hk : ∀ (j : Nat) (es : List PyData) (b : Addr), j ≠ i → S[j]? = some (.own es) → σ[j]? = some (some (.ref b)) → b ≠ p ∧ (∀ o, H b = some o → H1 b = some o) ∧ G1 b = none)
    (hp : H1 p = some (.lst vs)) (hg : G1 p = none) (np : pp ≠ some p) (r : RvL K pp G1 vs ds) : Sl K pp G1 H1 (S.set i (.own ds)) (σ.set i (some (.ref p))) := by
  refine ⟨by simp [s.len], fun j sv e => ?_, fun j l es fs b e1 e2 e3 e4 => ?_⟩
  · by_cases hj : i = j
    · subst hj
      rw [List.getElem?_set] at e
      split at e
      · split at e
        · next hlt =>
          cases e
          refine ⟨some (.ref p), ?_, p, vs, rfl, hp, hg, np, r⟩
          rw [List.getElem?_set, if_pos rfl, if_pos (by rw [← s.len]; exact hlt)]
        · cases e
      · next n => exact absurd rfl n
    · rw [List.getElem?_set_ne hj] at e
      obtain ⟨o, h1, h2⟩ := s.each j sv e
      refine ⟨o, by rw [List.getElem?_set_ne hj]; exact h1, ?_⟩
      cases sv with
      | un => trivial
      | dat d =>
        obtain ⟨v, rfl, rv⟩ := h2
        exact ⟨v, rfl, Rv.mono hgg _ _ rv⟩
      | own es =>
        obtain ⟨b, ws, rfl, hb, gb, nb, rb⟩ := h2
        obtain ⟨_, k1, k2⟩ := hk j es b (Ne.symm hj) e h1
        exact ⟨b, ws, rfl, k1 _ hb, k2, nb, RvL.mono hgg _ _ rb⟩
  · by_cases hj : i = j
    · by_cases hl : i = l
      · exact hj.symm.trans hl
      · subst hj
        rw [List.getElem?_set_ne hl] at e2 e4
        have hb : b = p := by
          rw [List.getElem?_set] at e3
          split at e3
          · split at e3
            · cases e3; rfl
            · cases e3
          · next n => exact absurd rfl n
        exact absurd hb (hk l fs b (Ne.symm hl) e2 e4).1
    · rw [List.getElem?_set_ne hj] at e1 e3
      by_cases hl : i = l
      · subst hl
        have hb : b = p := by
          rw [List.getElem?_set] at e4
          split at e4
          · split at e4
            · cases e4; rfl
            · cases e4
          · next n => exact absurd rfl n
        exact absurd hb (hk j es b (Ne.symm hj) e1 e3).1
      · rw [List.getElem?_set_ne hl] at e2 e4
        exact s.apart j l es fs b e1 e2 e3 e4
theorem Sl.own {i : Nat} {ds : List PyData} (s : Sl K pp G H S σ) (e : S[i]? = some (.own ds)) : ∃ p vs, σ[i]? = some (some (.ref p)) ∧ H p = some (.lst vs) ∧ G p = none ∧ pp ≠ some p ∧ RvL K pp G vs ds := by
  obtain ⟨o, h1, p, vs, rfl, h2⟩ := s.each i _ e
  exact ⟨p, vs, h1, h2⟩
end
section
variable {X : Cx}
/-! ### x = [] -/
def sNew (i : Nat) : SG := fun S ps => some (.nx (S.set i (.own [])), ps)
theorem pds_new {i : Nat} {x : Str} {pos pos' pos2 : Pos} (hN : X.N.Nodup) (hi : X.N[i]? = some x) (hx : Loc X.env.scope x)
    (hf : X.fn x = true ∨ X.env.scope.names.lookup x = some .local := by first | exact .inl rfl | exact .inr rfl | assumption)
    (hs : swapsWithSole [.Name x pos'] (.List [] pos2) pos.line X.env = pure false := by rfl) (hw : swappedStores [.Name x pos'] (.List [] pos2) X.env = pure none := by rfl) (h1 : (assignEach [.Name x pos'] X.env).map (·.2) = [assign (.Name x pos') X.env] := by rfl) :
    PDS X (.Assign [.Name x pos'] (.List [] pos2) pos) (sNew i) :=
  ps_imp (ps_asg (pe_lst pa_nil) (pg_name hN hi hx hf) hs hw h1) fun D σ H ⟨pp, ps, G, S, r, ps', c, s, e, k⟩ => by
    cases e
    refine ⟨Nat.zero_le _, fun p hp => ?_⟩
    have gh : Go pp ps [] G H G (upd H p (.lst [])) := Go.hide c hp
    have hGp : G p = none := c.ex.free hp
    refine k (σ.set i (some (.ref p))) G (upd H p (.lst [])) ⟨gh.gg, gh.cf, fun b o h n => .inl (gh.fresh b o h n), fun b o h n _ nt => gh.keep b o h n (by simp) nt, fun b hb => ?_, fun b hb => gh.none_of hb⟩ ?_
    · obtain ⟨j, ds, e1, e2⟩ := hb
      by_cases hj : i = j
      · subst hj
        rw [List.getElem?_set] at e2
        split at e2
        · split at e2
          · cases e2
            exact .inl hp
          · cases e2
        · next n => exact absurd rfl n
      · rw [List.getElem?_set_ne hj] at e1 e2
        exact .inr ⟨j, ds, e1, e2⟩
    · refine s.setOwn (Same.refl G) (fun j es b hj e1 e2 => ?_) upd_same hGp (c.pne hp) .nil
      obtain ⟨b', ws, h1, h2, h3, h4, h5⟩ := s.own e1
      rw [e2] at h1
      cases h1
      exact ⟨ne_of_none h2 hp, fun o ho => same_new hp b o ho, h3⟩
/-! ### x.append(e) -/
def sApp (i : Nat) (g : EG) : SG := fun S ps => match S[i]? with
  | some (.own ds) => if decide (ds.length < 16777216) then bindP (g S ps) fun d p => some (.nx (S.set i (.own (ds ++ [d]))), p) else none
  | _ => none
theorem pds_app {i : Nat} {x : Str} {e : Expr} {g : EG} {pn apos cpos pos : Pos} (hN : X.N[i]? = some x) (hv : Vis X.env.scope x) (h : PD X e g) (hd : (x == ("__debug__" : Str)) = false := by decide) (hcd : (x == ("__classdict__" : Str)) = false := by decide)
    (hbase : attributeBase (.Name x pn) "append" X.env (eval (.Name x pn) X.env) = eval (.Name x pn) X.env := by rfl)
    (hfew : ((backTo cpos (starEach [e] X.env)).all (fun x => !x.1) && (backToKw cpos (keywordEach [] X.env)).all (fun x => x.1.isSome) && decide ([e].length + ([] : List Keyword).length + (if ([] : List Keyword).isEmpty then 0 else 1) < 30)) = true := by rfl)
    (hline : (apos.endLine == cpos.line) = true := by rfl) (hst : starEach [e] X.env = (false, eval e X.env) :: starEach [] X.env := by rfl) (hplain : (backTo cpos (starEach [] X.env)).any (·.1) = false := by rfl)
    (hsw : swapsWith (.Call (.Attribute (.Name x pn) "append" apos) [e] [] cpos) none pos.line X.env = pure false := by rfl) :
    PDS X (.Expr (.Call (.Attribute (.Name x pn) "append" apos) [e] [] cpos) pos) (sApp i g) :=
  ps_imp (ps_expr (pe_bm PySem.F.plainAttrs_list PySem.F.slot_list_append PySem.F.type_list_append mt_append (pe_var hN hv hd hcd) (pa_cons h pa_nil hst) hbase hfew hline hst hplain) hsw) fun D σ H ⟨pp, ps, G, S, r, ps', c, s, e, k⟩ => by
    unfold sApp at e
    split at e
    · next ds eo =>
      split at e
      · next hlt =>
        obtain ⟨d, p1, e1, e⟩ := bindP_inv e
        cases e
        obtain ⟨p, vs, hσ, hp, hGp, np, rv⟩ := s.own eo
        refine ⟨.ref p, hσ, .inl ⟨rfl, vs, .inl (.inl hp)⟩, pp, ps, G, S, d, ps', c, s, e1, fun v G1 H1 g1 r1 => ?_⟩
        have hp1 : H1 p = some (.lst vs) := g1.keep p _ hp np (by simp) nt_lst
        have hG1 : G1 p = none := g1.gnone hGp hp
        have hlt' : ds.length < 16777216 := of_decide_eq_true hlt
        refine ⟨p, vs, v, rfl, rfl, hp1, by rw [rv.length, sizeLine_eq]; exact hlt', ?_⟩
        have own_p : Owned S σ p := ⟨i, ds, eo, hσ⟩
        have eσ : σ.set i (some (.ref p)) = σ := by
          apply List.ext_getElem?
          intro j
          by_cases hj : i = j
          · subst hj
            rw [List.getElem?_set, if_pos rfl, hσ, if_pos (List.getElem?_eq_some_iff.mp hσ).1]
          · rw [List.getElem?_set_ne hj]
        have sl1 : Sl X.K pp G1 (upd H1 p (.lst (vs ++ [v]))) (S.set i (.own (ds ++ [d]))) (σ.set i (some (.ref p))) := by
          refine (s.go g1).setOwn (Same.refl G1) (fun j es b hj e1 e2 => ?_) upd_same hG1 np ((RvL.mono g1.gg _ _ rv).app (.cons r1 .nil))
          have hne : b ≠ p := fun z => by
            subst z
            exact hj (s.apart j i es ds b e1 eo e2 hσ)
          obtain ⟨b', ws, h1, h2, h3, h4, h5⟩ := (s.go g1).own e1
          rw [e2] at h1
          cases h1
          exact ⟨hne, fun o ho => by rw [upd_ne hne]; exact ho, h3⟩
        rw [eσ] at sl1
        refine k σ G1 _ ⟨g1.gg, ⟨fun b o hb => ?_, fun a ha => ⟨(g1.cf.pot a ha).1, ?_⟩, tab_upd hp1 g1.cf.tb, g1.cf.vt, ot_upd nt_lst g1.cf.ot⟩, fun b o hb n => .inl (g1.fresh b o hb n), fun b o hb n no nt => ?_, fun b hb => ?_, fun b hb => ?_⟩ sl1
        · rw [upd_ne (ne_of_none hb hG1)]
          exact g1.cf.ex b o hb
        · have hne : a ≠ p := fun z => np (z ▸ ha)
          rw [upd_ne hne]
          exact (g1.cf.pot a ha).2
        · have hne : b ≠ p := fun z => no (z ▸ own_p)
          rw [upd_ne hne]
          exact g1.keep b o hb n (by simp) nt
        · obtain ⟨j, es, h1, h2⟩ := hb
          by_cases hj : i = j
          · subst hj
            rw [hσ] at h2
            cases h2
            exact .inr own_p
          · rw [List.getElem?_set_ne hj] at h1
            exact .inr ⟨j, es, h1, h2⟩
        · by_cases hbp : b = p
          · subst hbp
            rw [upd_same] at hb
            cases hb
          · rw [upd_ne hbp] at hb
            exact g1.none_of hb
      · cases e
    · cases e
/-! ### an own list becomes a datum -/
def frz (i : Nat) (S : Sd) : Sd := match S[i]? with
  | some (.own ds) => S.set i (.dat (.list ds))
  | _ => S
theorem set_self {σ : L2.St} {i : Nat} {o : Option V} (h : σ[i]? = some o) : σ.set i o = σ := by
  apply List.ext_getElem?
  intro j
  by_cases hj : i = j
  · subst hj
    rw [List.getElem?_set, if_pos rfl, h, if_pos (List.getElem?_eq_some_iff.mp h).1]
  · rw [List.getElem?_set_ne hj]
/-- the view with an own list in it -/
theorem frz_sl {K : PySem.W.Frag} {pp : Option Addr} {ps : Pt} {G H : Hp} {S : Sd} {σ : L2.St} {i : Nat} {ds : List PyData} {p : Addr} {vs : List V} (c : Cf pp ps G H) (s : Sl K pp G H S σ) (eo : S[i]? = some (.own ds)) (hσ : σ[i]? = some (some (.ref p))) (hp : H p = some (.lst vs)) (hG : G p = none) (np : pp ≠ some p) (rv : RvL K pp G vs ds) :
    Cf pp ps (upd G p (.lst vs)) H ∧ Sl K pp (upd G p (.lst vs)) H (S.set i (.dat (.list ds))) σ := by
  have sm : Same G (upd G p (.lst vs)) := same_new hG
  refine ⟨⟨fun b o e => ?_, fun a ha => ⟨?_, (c.pot a ha).2⟩, c.tb, vt_upd nt_lst c.vt, c.ot⟩, ?_⟩
  · by_cases hb : b = p
    · subst hb
      rw [upd_same] at e
      cases e
      exact hp
    · rw [upd_ne hb] at e
      exact c.ex b o e
  · have hne : a ≠ p := fun z => np (z ▸ ha)
    rw [upd_ne hne]
    exact (c.pot a ha).1
  · have s1 : Sl K pp (upd G p (.lst vs)) H (S.set i .un) (σ.set i none) := by
      refine ⟨by simp [s.len], fun j sv e => ?_, s.wipe1.apart⟩
      obtain ⟨o, h1, h2⟩ := (s.wipe1 (v := i)).each j sv e
      refine ⟨o, h1, ?_⟩
      cases sv with
      | un => trivial
      | dat d =>
        obtain ⟨v, rfl, r⟩ := h2
        exact ⟨v, rfl, Rv.mono sm _ _ r⟩
      | own es =>
        obtain ⟨b, ws, rfl, hb, gb, nb, rb⟩ := h2
        refine ⟨b, ws, rfl, hb, ?_, nb, RvL.mono sm _ _ rb⟩
        have hne : b ≠ p := fun z => by
          subst z
          have hj : i ≠ j := fun z => by
            subst z
            rw [List.getElem?_set] at h1
            split at h1
            · split at h1 <;> cases h1
            · next n => exact absurd rfl n
          rw [List.getElem?_set_ne hj] at e h1
          exact hj (s.apart i j ds es b eo e hσ h1)
        rw [upd_ne hne]
        exact gb
    have s2 := s1.set (i := i) (v := .ref p) (d := .list ds) (.lst (.inl upd_same) (RvL.mono sm _ _ rv))
    rw [List.set_set, List.set_set, set_self hσ] at s2
    exact s2
def sFrz (i : Nat) (g : SG) : SG := fun S ps => g (frz i S) ps
theorem pds_frz {i : Nat} {sts : List Stmt} {g : SG} (h : PDSs X sts g) : PDSs X sts (sFrz i g) := pss_imp h fun D σ H ⟨pp, ps, G, S, r, ps', c, s, e, k⟩ => by
  unfold sFrz frz at e
  split at e
  · next ds eo =>
    obtain ⟨p, vs, hσ, hp, hGp, np, rv⟩ := s.own eo
    obtain ⟨c1, s1⟩ := frz_sl c s eo hσ hp hGp np rv
    refine ⟨pp, ps, _, _, r, ps', c1, s1, e, EndD.back (ps1 := ps) ⟨same_new hGp, c1, fun b o hb n => ?_, fun b o hb _ _ _ => hb, fun b hb => ?_, fun b hb => hb⟩ k⟩
    · by_cases hbp : b = p
      · subst hbp
        exact .inr ⟨i, ds, eo, hσ⟩
      · rw [upd_ne hbp, n] at hb
        cases hb
    · obtain ⟨j, es, h1, h2⟩ := hb
      by_cases hj : i = j
      · subst hj
        rw [List.getElem?_set] at h1
        split at h1
        · split at h1 <;> cases h1
        · next n => exact absurd rfl n
      · rw [List.getElem?_set_ne hj] at h1
        exact .inr ⟨j, es, h1, h2⟩
  · exact ⟨pp, ps, G, S, r, ps', c, s, e, k⟩
/-- .. for the time of a test -/
def bFrz (i : Nat) (g : BG) : BG := fun S ps => g (frz i S) ps
theorem go_out {pp : Option Addr} {ps : Pt} {G H G' H' : Hp} {p : Addr} {o o' : HO} (hG : G p = none) (g : Go pp ps [] (upd G p o) H G' H') : Go pp ps [] G H (fun b => if b = p then none else G' b) H' := by
  refine ⟨fun b u e => ?_, ⟨fun b u e => ?_, fun a ha => ⟨?_, (g.cf.pot a ha).2⟩, g.cf.tb, fun b ps e => (by
    split at e
    · cases e
    · exact g.cf.vt b ps e), g.cf.ot⟩, fun b u e n => ?_, g.keep, g.there⟩
  · have hb : b ≠ p := ne_of_none e hG
    show (if b = p then none else G' b) = some u
    rw [if_neg hb]
    exact g.gg b u (by rw [upd_ne hb]; exact e)
  · split at e
    · cases e
    · exact g.cf.ex b u e
  · split
    · rfl
    · exact (g.cf.pot a ha).1
  · split at e
    · cases e
    · next hb => exact g.fresh b u e (by rw [upd_ne hb]; exact n)
theorem pdt_frz {i : Nat} {e : Expr} {g : BG} (h : PDT X e g) : PDT X e (bFrz i g) := pt_imp h fun σ H Q ⟨pp, ps, G, S, b, ps', c, s, e, k⟩ => by
  unfold bFrz frz at e
  split at e
  · next ds eo =>
    obtain ⟨p, vs, hσ, hp, hGp, np, rv⟩ := s.own eo
    obtain ⟨c1, s1⟩ := frz_sl c s eo hσ hp hGp np rv
    exact ⟨pp, ps, _, _, b, ps', c1, s1, e, fun G' H' g' => k _ H' (go_out (o' := .lst vs) hGp g')⟩
  · exact ⟨pp, ps, G, S, b, ps', c, s, e, k⟩
/-! ### a, b = e1, e2 -/
def sPar (i j : Nat) (gs : AG) : SG := fun S ps => match gs S ps with
  | some ([x, y], p) => some (.nx ((S.set i (.dat x)).set j (.dat y)), p)
  | _ => none
theorem pds_par {i j : Nat} {x y : Str} {a b : Expr} {gs : AG} {px py pt pos : Pos} {kt k2 pt2} (hc : X.calm = true) (hN : X.N.Nodup) (hi : X.N[i]? = some x) (hj : X.N[j]? = some y) (hij : i ≠ j) (hx : X.env.scope.names.lookup x = some .local) (hy : X.env.scope.names.lookup y = some .local)
    (ha : PDA X [a, b] gs) (hw : swappedStores [.Tuple [.Name x px, .Name y py] kt pt] (.Tuple [a, b] k2 pt2) X.env = pure (some [x, y])) : PDS X (.Assign [.Tuple [.Name x px, .Name y py] kt pt] (.Tuple [a, b] k2 pt2) pos) (sPar i j gs) :=
  ps_imp (ps_par hc hN hi hj hij hx hy ha hw) fun D σ H ⟨pp, ps, G, S, r, ps', c, s, e, k⟩ => by
    unfold sPar at e
    split at e
    · next dx dy p1 e1 =>
      cases e
      refine ⟨pp, ps, G, S, _, _, c, s, e1, fun vs G1 H1 g1 r1 => ?_⟩
      obtain ⟨v, w, rfl, rv, rw'⟩ := rvl_two r1
      refine ⟨v, w, rfl, k _ G1 H1 (g1.toS fun b z => owned_set dat_ne (owned_set dat_ne z)) (((s.go g1).set rv).set rw')⟩
    · cases e
/-! ### slices -/
def cutL {α : Type} (xs : List α) (lo hi : Option Int) : List α := (xs.drop (HT.sIx xs.length 0 lo)).take (HT.sIx xs.length xs.length hi - HT.sIx xs.length 0 lo)
theorem cut_rv {K : PySem.W.Frag} {pp : Option Addr} {G : Hp} {xs : List V} {ds : List PyData} (lo hi : Option Int) (r : RvL K pp G xs ds) : RvL K pp G (cutV xs lo hi) (cutL ds lo hi) := by
  unfold cutV cutL
  rw [r.length]
  exact (r.drop _).take _
/-- a part of a slice: left out, or a whole number -/
abbrev OG := Sd → Pt → Option (Option Int × Pt)
def tOD (K : PySem.W.Frag) (g : OG) : TO := fun σ H Q => ∃ (pp : Option Addr) (ps : Pt) (G : Hp) (S : Sd) (o : Option Int) (ps' : Pt), Cf pp ps G H ∧ Sl K pp G H S σ ∧ g S ps = some (o, ps') ∧ ∀ G' H', Go pp ps' [] G H G' H' → Q o H'
abbrev PDO (X : Cx) (e : Option Expr) (g : OG) : Prop := PO X e (tOD X.K g)
theorem po_imp {e : Option Expr} {t t' : TO} (h : PO X e t) (i : ∀ σ H Q, t' σ H Q → t σ H Q) : PO X e t' := ⟨fun pins s σ H Q I q => h.run pins s σ H Q I (i σ H Q q)⟩
def oNone : OG := fun _ ps => some (none, ps)
def oSome (g : EG) : OG := fun S ps => match g S ps with
  | some (.int i, p) => some (some i, p)
  | _ => none
theorem pdo_none : PDO X none oNone := po_imp po_none fun σ H Q ⟨pp, ps, G, S, o, ps', c, s, e, k⟩ => by
  cases e
  exact k G H (Go.refl c)
theorem pdo_some {e : Expr} {g : EG} (h : PD X e g) : PDO X (some e) (oSome g) := po_imp (po_some h) fun σ H Q ⟨pp, ps, G, S, o, ps', c, s, e, k⟩ => by
  unfold oSome at e
  split at e
  · next i p1 e1 =>
    cases e
    exact ⟨pp, ps, G, S, _, _, c, s, e1, fun v G' H' g' r' => ⟨i, rv_int r', k G' H' g'⟩⟩
  · cases e
def slD (x : PyData) (lo hi : Option Int) : Option PyData := match x with
  | .list ds => some (.list (cutL ds lo hi))
  | .tuple ds => some (.tuple (cutL ds lo hi))
  | .str z => if decide (z.length ≤ 16777216) then some (.str (cutS z lo hi)) else none
  | _ => none
def eSl (g : EG) (gl gh : OG) : EG := fun S ps => bindP (g S ps) fun x p => bindP (gl S p) fun l p1 => bindP (gh S p1) fun h p2 => (slD x l h).map fun d => (d, p2)
def rSlD (K : PySem.W.Frag) : V → Option Int → Option Int → Hp → VK → Prop := fun v lo hi H Q => ∃ (pp : Option Addr) (ps : Pt) (G : Hp) (x d : PyData), Cf pp ps G H ∧ Rv K pp G v x ∧ slD x lo hi = some d ∧ ∀ z G' H', Go pp ps [] G H G' H' → Rv K pp G' z d → Q z H'
theorem cut_whole {α : Type} {xs : List α} {lo hi : Option Int} (h : HT.sIx xs.length 0 lo = 0 ∧ HT.sIx xs.length xs.length hi = xs.length) : cutL xs lo hi = xs := by
  unfold cutL
  rw [h.1, h.2]
  simp
theorem sl_data : SlR X (rSlD X.K) := by
  intro pins s σ H x v vl vu lo hi sl Q I rx hs pl pu ⟨pp, ps, G, dx, d, c, r, e, k⟩
  unfold slD at e
  split at e
  · next ds =>
    cases e
    obtain ⟨a, xs, rfl, hx, ha⟩ := rv_lst r
    refine sl_list pins s σ H _ v vl vu lo hi sl Q I rx hs pl pu ⟨a, xs, rfl, cf_l c hx, fun p hp => ?_⟩
    have gl : Go pp ps [] G H (upd G p (.lst (cutV xs lo hi))) (upd H p (.lst (cutV xs lo hi))) := Go.lay c hp
    exact k _ _ _ gl (.lst (.inl upd_same) (RvL.mono gl.gg _ _ (cut_rv lo hi ha)))
  · next ds =>
    cases e
    obtain ⟨a, xs, rfl, hx, ha⟩ := rv_tup r
    refine sl_tupA pins s σ H _ v vl vu lo hi sl Q I rx hs pl pu ⟨a, xs, rfl, cf_t c hx, fun hw => ?_, fun _ p hp => ?_⟩
    · rw [ha.length] at hw
      rw [cut_whole hw] at k
      exact k _ G H (Go.refl c) (.tup hx ha)
    · have gl : Go pp ps [] G H (upd G p (.tup (cutV xs lo hi))) (upd H p (.tup (cutV xs lo hi))) := Go.lay c hp
      exact k _ _ _ gl (.tup (.inl (.inl upd_same)) (RvL.mono gl.gg _ _ (cut_rv lo hi ha)))
  · next z =>
    obtain ⟨h1, rfl⟩ := ite_inv e
    cases r
    exact sl_str pins s σ H _ v vl vu lo hi sl Q I rx hs pl pu ⟨z, rfl, by rw [sizeLine_eq]; exact of_decide_eq_true h1, k _ G H (Go.refl c) (.str _)⟩
  · cases e
theorem pd_slice {e : Expr} {lo hi : Option Expr} {g : EG} {gl gh : OG} {p2 pos : Pos} (he : PD X e g) (hl : PDO X lo gl) (hh : PDO X hi gh) : PD X (.Subscript e (.Slice lo hi none p2) pos) (eSl g gl gh) :=
  pe_imp (pe_slice sl_data he hl hh) fun σ H Q ⟨pp, ps, G, S, d, ps', c, s, e, k⟩ => by
    obtain ⟨x, p1, e1, e⟩ := bindP_inv e
    obtain ⟨l, p2, e2, e⟩ := bindP_inv e
    obtain ⟨u, p3, e3, e⟩ := bindP_inv e
    obtain ⟨d', e4, e⟩ := map_inv e
    cases e
    exact ⟨pp, ps, G, S, x, p1, c, s, e1, fun v G1 H1 g1 r1 => ⟨pp, p1, G1, S, l, p2, g1.cf, s.go g1, e2, fun G2 H2 g2 => ⟨pp, p2, G2, S, u, _, g2.cf, (s.go g1).go g2, e3, fun G3 H3 g3 =>
      ⟨pp, _, G3, x, d, g3.cf, Rv.mono (g2.gg.trans g3.gg) _ _ r1, e4, fun z G4 H4 g4 r4 => k z G4 H4 (((g1.trans g2).trans g3).trans g4) r4⟩⟩⟩⟩
def revD : PyData → Option PyData
  | .list ds => some (.list ds.reverse)
  | _ => none
theorem pd_rev {e : Expr} {g : EG} {k1 : Nat} {p1 p2 p3 pos : Pos} (he : PD X e g) : PD X (.Subscript e (.Slice none none (some (.UnaryOp .USub (.Constant (.int 1) k1 p1) p2)) p3) pos) (eUn revD g) :=
  pe_imp (pe_revL he) fun σ H Q ⟨pp, ps, G, S, d, ps', c, s, e, k⟩ => by
    obtain ⟨x, p1, e1, e⟩ := bindP_inv e
    obtain ⟨d', e2, e⟩ := map_inv e
    cases e
    refine ⟨pp, ps, G, S, x, _, c, s, e1, fun v G1 H1 g1 r1 => ?_⟩
    unfold revD at e2
    split at e2
    · next ds =>
      cases e2
      obtain ⟨a, xs, rfl, hx, ha⟩ := rv_lst r1
      refine ⟨a, xs, rfl, cf_l g1.cf hx, fun p hp => ?_⟩
      have gl : Go pp ps' [] G1 H1 (upd G1 p (.lst xs.reverse)) (upd H1 p (.lst xs.reverse)) := Go.lay g1.cf hp
      exact k _ _ _ (g1.trans gl) (.lst (.inl upd_same) (RvL.mono gl.gg _ _ ha.rev))
    · cases e2
/-! ### isinstance(e, a built-in type) -/
def tyName : PyData → Option String
  | .none => some "NoneType"
  | .bool _ => some "bool"
  | .int _ => some "int"
  | .str _ => some "str"
  | .list _ => some "list"
  | .tuple _ => some "tuple"
  | .dict _ => none
theorem ty_of {K : PySem.W.Frag} {pp : Option Addr} {ps : Pt} {G H : Hp} {v : V} {d : PyData} {n : String} (c : Cf pp ps G H) (r : Rv K pp G v d) (e : tyName d = some n) : TyX K H v (.type n) := by
  cases d with
  | none => cases e; cases r; exact .base .non
  | bool b => cases e; cases r; exact .base (.bl b)
  | int i => cases e; cases r; exact .base (.int i)
  | str x => cases e; cases r; exact .base (.str x)
  | list ds =>
    cases e
    obtain ⟨a, xs, rfl, hx, ha⟩ := rv_lst r
    rcases hx with h | ⟨o, h⟩
    · exact .base (.lst (c.ex _ _ h))
    · exact .base (.frz (c.ex _ _ h))
  | tuple ds =>
    cases e
    obtain ⟨a, xs, rfl, hx, ha⟩ := rv_tup r
    rcases hx with (h | ⟨o, h⟩) | ⟨o, its, n, h1, h2, _⟩
    · exact .base (.tup (c.ex _ _ h))
    · exact .fTuple (c.ex _ _ h)
    · exact .kTuple h1 h2
  | dict l => cases e
def isiD (T : String) (x : PyData) : Option PyData := match tyName x with
  | some n => (kitB n T).map .bool
  | none => none
theorem pd_isi {T : String} {e : Expr} {y : Str} {g : EG} {p p' pos : Pos} (hg : Gl X "isinstance") (hm : X.mg "isinstance" = none) (hgy : Gl X y) (hmy : X.mg y = none) (hv : bootBuiltins y = some (.type T)) (h : PD X e g) (hn : y ≠ "__name__" := by decide) (hd : (y == ("__debug__" : Str)) = false := by decide)
    (hst : starEach [e, .Name y p'] X.env = (false, eval e X.env) :: starEach [.Name y p'] X.env := by rfl) (hst2 : starEach [.Name y p'] X.env = (false, eval (.Name y p') X.env) :: starEach [] X.env := by rfl) (hpl : (backTo pos (starEach [.Name y p'] X.env)).any (·.1) = false := by rfl) :
    PD X (.Call (.Name "isinstance" p) [e, .Name y p'] [] pos) (eUn (isiD T) g) :=
  pe_imp (pe_callB call_isi hg hm (by decide +kernel) (pa_cons h (pa_cons (pe_bltn (v := .ty T) hgy hmy hv rfl hn hd) pa_nil hst2) hst) (by decide) (by decide) hst hpl) fun σ H Q ⟨pp, ps, G, S, d, ps', c, s, e, k⟩ => by
    obtain ⟨x, p1, e1, e⟩ := bindP_inv e
    obtain ⟨d', e2, e⟩ := map_inv e
    cases e
    unfold isiD at e2
    split at e2
    · next n en =>
      obtain ⟨b, hb, rfl⟩ := map_inv e2
      exact ⟨pp, ps, G, S, x, _, c, s, e1, fun v G1 H1 g1 r1 => ⟨v, .ty T, _, _, b, rfl, .ty T, ty_of g1.cf r1 en, kit_ty hb, k _ G1 H1 g1 (.bl b)⟩⟩
    · cases e2
end
end DL

set_option Elab.async false
set_option linter.all false
set_option maxRecDepth 100000
/-! D-layer, part g: sorted(e, key=f), f a def of the program. -/
namespace DL
open PySem L2
variable [TBL]

/-- a value that can be called with one datum, from within a built-in -/
def CalA (X : Cx) (pn : List (Addr × Obj)) (cs : List (Addr × Str)) (fv : Value) (fn : List PyData → Pt → Option (PyData × Pt)) : Prop :=
  ∀ (pins : List (Addr × Obj)) (s : Shared) (σ : L2.St) (H : Hp) (pp : Option Addr) (q q' : Pt) (G : Hp) (v : V) (u : Value) (d k : PyData), (∀ p ∈ pn, p ∈ pins) → (∀ p ∈ cs, H p.1 = some (LamX.CodeO p.1 p.2)) → Inv X pins σ H s → Cf pp q G H → Rv X.K pp G v d → RelV v u → fn [d] q = some (k, q') →
    wpAny (model X.prog X.w) X.A.in1.in1 (call fv [u]) (EP X pins σ fun z H' => ∃ G', Go pp q' [] G H G' H' ∧ Rv X.K pp G' z k) (fun _ _ => False) s
theorem cal_def {X : Cx} {k : Nat} {f : Addr} {fd : FuncData} {p : Str} {fn : List PyData → Pt → Option (PyData × Pt)} (F : FnD X.prog X.w X.K X.mg X.base k f fd [p] fn) (hr : Room (k + 1) X.A) (hb : Binds X.K fd [p] []) : CalA X [] [] (.ref f) fn := by
  intro pins s σ H pp q q' G v u d kd _ _ I c r rv e
  have hr' : Room k X.A.in1.in1 := ⟨hr.hd, by
    have := hr.dp
    show X.A.depth + 3 * k + 5 < _
    omega, by
    have := hr.un
    show X.A.units + 1 + 1 + 16 * k + 200 < _
    omega⟩
  have hbt := hb s [u] I.kIn (by simp)
  rw [List.append_nil] at hbt
  refine wpAny_call (codeAny_mono (F.run X.A.in1.in1 X.stack s H ⟨[u], []⟩ [u] [v] (fun z H' => ∃ G', Go pp q' [] G H G' H' ∧ Rv X.K pp G' z kd) E0 hr' (Env0.in1 (Env0.in1 I.env0)) hbt (.cons rv .nil) ⟨pp, q, G, [d], kd, q', rfl, c, .cons r .nil, e, fun z G' H' g' r' => ⟨G', g', r'⟩⟩) fun res s' hq => ?_)
  cases res with
  | error e => exact False.elim hq
  | ok fl =>
    cases fl with
    | ret u => exact I.after hq
    | next => exact False.elim hq
    | brk => exact False.elim hq
    | cont => exact False.elim hq
def keysGo (f : List PyData → Pt → Option (PyData × Pt)) : List PyData → Pt → Option (List PyData × Pt)
  | [], ps => some ([], ps)
  | d :: ds, ps => bindP (f [d] ps) fun k p => bindP (keysGo f ds p) fun ks p' => some (k :: ks, p')
theorem keysGo_len {f : List PyData → Pt → Option (PyData × Pt)} : ∀ {ds : List PyData} {ps p : Pt} {ks : List PyData}, keysGo f ds ps = some (ks, p) → ks.length = ds.length
  | [], _, _, _, h => by
    cases h
    rfl
  | d :: ds, ps, p, ks, h => by
    obtain ⟨k, p1, _, h⟩ := bindP_inv h
    obtain ⟨ks', p2, h2, h⟩ := bindP_inv h
    cases h
    have := keysGo_len h2
    simp [this]
def allAlikeB (ks : List PyData) : Bool := ks.all fun d => ks.all fun e => PySem.W.alike d e
def isTup1 : PyData → Bool
  | .tuple (_ :: _) => true
  | _ => false
def noTup : PyData → Bool
  | .none => false
  | .tuple _ => false
  | _ => true
def sortableB (ks : List PyData) : Bool := ks.all isTup1 || ks.all noTup
theorem allAlike_of {ks : List PyData} (h : allAlikeB ks = true) : PySem.W.AllAlike ks := fun d hd e he => by
  unfold allAlikeB at h
  rw [List.all_eq_true] at h
  have h1 := h d hd
  rw [List.all_eq_true] at h1
  exact h1 e he
theorem sortable_of {ks : List PyData} (h : sortableB ks = true) : PySem.W.Sortable ks := by
  unfold sortableB at h
  rw [Bool.or_eq_true] at h
  rcases h with h | h
  · rw [List.all_eq_true] at h
    refine .inl fun d hd => ?_
    have h1 := h d hd
    cases d with
    | tuple l =>
      cases l with
      | nil => cases h1
      | cons x r => exact ⟨x, r, rfl⟩
    | _ => cases h1
  · rw [List.all_eq_true] at h
    refine .inr fun d hd => ?_
    have h1 := h d hd
    cases d with
    | none => cases h1
    | tuple l => cases h1
    | _ => exact ⟨fun z => (nomatch z), fun xs z => (nomatch z)⟩
def sortBy (ks ds : List PyData) : List PyData := ((ks.zip ds).mergeSort (PySem.W.dataLe false fun p => p.1)).map (·.2)
def keysOk (ks : List PyData) : Bool := allAlikeB ks && sortableB ks && ks.all fun k => decide (k.canLay0 = true) && decide (k.depth ≤ 64)
def eSortK (f : List PyData → Pt → Option (PyData × Pt)) (g : EG) : EG := fun S ps => bindP (g S ps) fun x p => match x with
  | .list ds => if fitsL ds then bindP (keysGo f ds p) fun ks p' => if keysOk ks then some (.list (sortBy ks ds), p') else none else none
  | _ => none

/-- from values one by one to a list of them -/
theorem each_vals {K : PySem.W.Frag} {pp : Option Addr} {G : Hp} : ∀ {us : List Value} {ps : List (PyData × PyData)}, PySem.W.EachIs (fun (u : Value) (p : PyData × PyData) => ∃ v, RelV v u ∧ Rv K pp G v p.2) us ps → ∃ vs, Vals vs us ∧ RvL K pp G vs (ps.map (·.2))
  | _, _, .nil => ⟨[], .nil, .nil⟩
  | _, _, .cons ⟨v, r, rv⟩ t => by
    obtain ⟨vs, h1, h2⟩ := each_vals t
    exact ⟨v :: vs, .cons r h1, .cons rv h2⟩
theorem vals_each {K : PySem.W.Frag} {pp : Option Addr} {G : Hp} : ∀ {vs : List V} {us : List Value} {ds ks : List PyData}, Vals vs us → RvL K pp G vs ds → ks.length = ds.length → PySem.W.EachIs (fun (u : Value) (p : PyData × PyData) => ∃ v, RelV v u ∧ Rv K pp G v p.2) us (ks.zip ds)
  | _, _, [], ks, .nil, .nil, _ => by
    rw [List.zip_nil_right]
    exact .nil
  | _, _, d :: ds, [], .cons _ _, .cons _ _, h => by simp at h
  | _, _, d :: ds, k :: ks, .cons r t, .cons rv rt, h => .cons ⟨_, r, rv⟩ (vals_each t rt (by simpa using h))
theorem each_reads {X : Cx} {pins : List (Addr × Obj)} {σ : L2.St} {H G : Hp} {s : Shared} {pp : Option Addr} (I : Inv X pins σ H s) (e : Same G H) : ∀ {vs : List V} {us : List Value} {ds : List PyData}, Vals vs us → RvL X.K pp G vs ds → (∀ d ∈ ds, d.canLay0 = true) → PySem.W.EachIs (fun u d => ∃ as, Reads s.heap u d as) us ds
  | _, _, _, .nil, .nil, _ => .nil
  | _, _, _, .cons r t, .cons rv rt, h => .cons (Dp.reads I _ _ _ (Rv.dp e _ _ rv (h _ List.mem_cons_self)) r) (each_reads I e t rt fun d hd => h d (List.mem_cons_of_mem _ hd))
/-- a code object that is known stays known -/
theorem code_go {pp : Option Addr} {ps q : Pt} {G H G' H' : Hp} {cs : List (Addr × Str)} (c : Cf pp ps G H) (g : Go pp q [] G H G' H') (h : ∀ p ∈ cs, H p.1 = some (LamX.CodeO p.1 p.2)) : ∀ p ∈ cs, H' p.1 = some (LamX.CodeO p.1 p.2) := fun p hp =>
  g.keep _ _ (h p hp) (fun z => by
    have h1 := (c.pot _ z).2
    rw [h p hp] at h1
    unfold LamX.CodeO at h1
    cases h1) (by simp) fun ps z => LamX.codeO_ne ps z
section
variable {X : Cx}
/-- what is new since s can't be anything that the frame leans on -/
structure NewAt (X : Cx) (pins : List (Addr × Obj)) (b : Addr) : Prop where
  ab : b ∈ X.ex ∨ X.s_0.heap.objs.size ≤ b
  loc : b ≠ X.env.locals
  cell : ∀ x c, X.env.cells.lookup x = some c → c ≠ b
  pin : ∀ p ∈ X.pn ++ pins, p.1 ≠ b
  fs : b ∉ X.fs
theorem _root_.L2.Inv.newAt {pins : List (Addr × Obj)} {σ : L2.St} {H : Hp} {s : Shared} {b : Addr} (I : Inv X pins σ H s) (h : s.heap.objs.size ≤ b) : NewAt X pins b := by
  refine ⟨.inr (Nat.le_trans I.sz h), Nat.ne_of_gt (Nat.lt_of_lt_of_le I.lt h), fun x c e z => ?_, fun p hp z => ?_, I.nofs h⟩
  · obtain ⟨v, o, ho, _⟩ := I.cell x c e
    exact absurd (z ▸ Heap.lt_size ho) (Nat.not_lt.mpr h)
  · exact absurd (z ▸ Heap.lt_size (I.pin p hp).1) (Nat.not_lt.mpr h)
abbrev lsO (xs : Array Value) (e : Nat) : Obj := PyProof.Rows.seqObj "list" xs e
theorem _root_.L2.Inv.addPin {pins : List (Addr × Obj)} {σ : L2.St} {H : Hp} {s : Shared} {b : Addr} {o : Obj} (I : Inv X pins σ H s) (n : NewAt X pins b) (ho : s.heap.get? b = some o) (hn : H b = none) (hd : ∀ v, o.data ≠ .cell v) : Inv X ((b, o) :: pins) σ H s := I.pins_of fun p hp => by
  rcases List.mem_cons.mp hp with rfl | hp
  · exact ⟨ho, hn, n.loc, n.fs, hd⟩
  · exact I.pin p (List.mem_append_right _ hp)
theorem _root_.L2.Inv.pin0 {pins : List (Addr × Obj)} {σ : L2.St} {H : Hp} {s : Shared} {b : Addr} {o : Obj} (I : Inv X ((b, o) :: pins) σ H s) : s.heap.get? b = some o ∧ H b = none :=
  ⟨(I.pin (b, o) (List.mem_append_right _ List.mem_cons_self)).1, (I.pin (b, o) (List.mem_append_right _ List.mem_cons_self)).2.1⟩
theorem _root_.L2.Inv.pop {pins : List (Addr × Obj)} {σ : L2.St} {H : Hp} {s : Shared} {x : Addr × Obj} (I : Inv X (x :: pins) σ H s) : Inv X pins σ H s := I.pins_of fun p hp => I.pin p (List.mem_append_right _ (List.mem_cons_of_mem _ hp))
/-- the sort's last state: the list at a is tracked from now on -/
theorem _root_.L2.Inv.sorted {pins : List (Addr × Obj)} {σ : L2.St} {H : Hp} {s : Shared} {a kS : Addr} {h' : Heap} {tk cc : Nat} {out : List Value} {vs : List V} (I : Inv X pins σ H s) (na : NewAt X pins a) (nk : NewAt X pins kS) (ha : H a = none) (hk : H kS = none)
    (keep : ∀ b o, b ≠ a → b ≠ kS → s.heap.get? b = some o → h'.get? b = some o) (ho : h'.get? a = some (lsO out.toArray cc)) (r : Vals vs out) (hz : vs.length ≤ sizeLine) : Inv X pins σ (upd H a (.lst vs)) { s with heap := h', toks := tk } := by
  have nea : ∀ b u, H b = some u → b ≠ a ∧ b ≠ kS := fun b u e => ⟨ne_of_none e ha, ne_of_none e hk⟩
  have nin : ∀ {b : Addr}, b ∉ [a, kS] → b ≠ a ∧ b ≠ kS := fun {b} h => by simpa using h
  refine I.step (g' := s.gens) (d' := s.drawn) (ch := [a, kS]) (fun b hb => ?_) (fun b o _ _ hc e _ => keep b o (nin hc).1 (nin hc).2 e) (fun b o _ _ hc e _ => ⟨o.slots, keep b o (nin hc).1 (nin hc).2 e⟩) (fun b o hc _ n => by rw [upd_ne (nin hc).1]; exact n)
    (fun b o hc e => ⟨o, keep b o (nin hc).1 (nin hc).2 e⟩) (fun b xs e => by rw [upd_ne (nea b _ e).1]; exact e) (fun b o u e => by rw [upd_ne (nea b _ e).1]; exact e) (fun b ps e => ⟨#[], by rw [upd_ne (nea b _ e).1, e]; simp⟩) (fun m hm => ?_) (fun b u e => ?_) I.bare
  · rcases List.mem_cons.mp hb with rfl | hb
    · exact ⟨na.ab, na.loc, na.cell, na.pin⟩
    · rcases List.mem_cons.mp hb with rfl | hb
      · exact ⟨nk.ab, nk.loc, nk.cell, nk.pin⟩
      · cases hb
  · obtain ⟨o, es, ep, ho', rr⟩ := hm
    exact ⟨o, es, ep, keep _ o na.loc.symm nk.loc.symm ho', rr⟩
  · by_cases hb : b = a
    · subst hb
      rw [upd_same] at e
      cases e
      exact ⟨hz, out, cc, r, ho⟩
    · rw [upd_ne hb] at e
      refine (I.hok b u e).stay (fun c v hc q => ?_) (fun c q => by rw [upd_ne (nea c _ q).1]; exact q) fun c xs q => by rw [upd_ne (nea c _ q).1]; exact q
      rcases hc with rfl | hc
      · exact keep _ v (nea _ _ e).1 (nea _ _ e).2 q
      · exact keep _ v (nea _ _ hc).1 (nea _ _ hc).2 q
theorem keysGo_cons {f : List PyData → Pt → Option (PyData × Pt)} {d : PyData} {ds ks : List PyData} {ps p' : Pt} (h : keysGo f (d :: ds) ps = some (ks, p')) : ∃ k ks' p, ks = k :: ks' ∧ f [d] ps = some (k, p) ∧ keysGo f ds p = some (ks', p') := by
  obtain ⟨k, p1, h1, h⟩ := bindP_inv h
  obtain ⟨ks', p2, h2, h⟩ := bindP_inv h
  cases h
  exact ⟨k, ks', p1, rfl, h1, h2⟩
theorem sort_rest {pn : List (Addr × Obj)} {cs : List (Addr × Str)} {pins : List (Addr × Obj)} {s2 : Shared} {σ : L2.St} {H : Hp} {Q : VK} {a kS fq : Addr} {e1 : Nat} {fn : List PyData → Pt → Option (PyData × Pt)} {pp : Option Addr} {ps ps' : Pt} {G : Hp} {xs : List V} {ds ks : List PyData} {vs : List Value} {E' : Value → Shared → Prop}
    (hpn : ∀ p ∈ pn, p ∈ pins) (hcs : ∀ p ∈ cs, H p.1 = some (LamX.CodeO p.1 p.2)) (I2 : Inv X ((kS, lsO #[] 0) :: (a, lsO #[] e1) :: pins) σ H s2) (na : NewAt X pins a) (nk : NewAt X pins kS) (hka : kS ≠ a) (hu : X.A.units + 66 < cLine) (C : CalA X pn cs (.ref fq) fn) (c : Cf pp ps G H) (rvs : Vals xs vs) (ra : RvL X.K pp G xs ds) (hZ : vs.length ≤ sizeLine) (ek : keysGo fn ds ps = some (ks, ps'))
    (hal : PySem.W.AllAlike ks) (hso : PySem.W.Sortable ks) (hlay : ∀ d ∈ ks, d.canLay0 = true) (hdep : ∀ d ∈ ks, d.depth ≤ 64) (hHa : H a = none)
    (k : ∀ v G' H', Go pp ps' [] G H G' H' → Rv X.K pp G' v (.list (sortBy ks ds)) → Q v H') :
    wpAny (model X.prog X.w) X.A.in1.in1 (PyProof.Rows.ksk_rest a (.ref fq) false vs.toArray e1 (.ref kS)) (fun f s' => f = .done (.ret .none) ∧ EP X pins σ Q (.ref a) s') E' s2 := by
  have hvl : vs.length = ds.length := by rw [← rvs.length, ra.length]
  have hkl : ks.length = ds.length := keysGo_len ek
  have nk' : ∀ o, NewAt X ((a, o) :: pins) kS := fun o => ⟨nk.ab, nk.loc, nk.cell, fun p hp => by
    rcases List.mem_append.mp hp with h | h
    · exact nk.pin p (List.mem_append_left _ h)
    · rcases List.mem_cons.mp h with rfl | h
      · exact hka.symm
      · exact nk.pin p (List.mem_append_right _ h), nk.fs⟩
  unfold PyProof.Rows.ksk_rest
  refine wpAny_bind (wpAny_rule ?_)
  first
    | rw [List.forIn_toArray]
    | (rw [← Array.forIn_toList]; simp only [List.toList_toArray])
  refine wpAny_bind (PyProof.Rows.ksk_fold (fun i s' => ∃ H' G' q kvs kA e, Inv X ((kS, lsO kA e) :: (a, lsO #[] e1) :: pins) σ H' s' ∧ Go pp q [] G H G' H' ∧ Vals kvs kA.toList ∧ RvL X.K pp G' kvs (ks.take i) ∧ keysGo fn (ds.drop i) q = some (ks.drop i, ps') ∧ i ≤ ds.length) vs 0 s2
    ⟨H, G, ps, [], #[], 0, I2, Go.refl c, .nil, .nil, ek, Nat.zero_le _⟩ ?step ?done)
  case step =>
    rintro j x s' hx ⟨H', G', q, kvs, kA, e, I', g', rk, rvk, ekj, hj⟩
    simp only [Nat.zero_add] at rvk ekj hj ⊢
    have hjv : j < vs.length := (List.getElem?_eq_some_iff.mp hx).1
    have hjd : j < ds.length := by omega
    rw [List.drop_eq_getElem_cons hjd] at ekj
    obtain ⟨kk, ks', q1, e2, e3, e4⟩ := keysGo_cons ekj
    obtain ⟨v, hv, rv⟩ := ra.get (List.getElem?_eq_getElem hjd)
    obtain ⟨u, hu', ru⟩ := rvs.get hv
    rw [hx] at hu'
    cases hu'
    have hjk : j < ks.length := by omega
    have ekd : ks.drop j = ks[j] :: ks.drop (j + 1) := List.drop_eq_getElem_cons hjk
    rw [ekd] at e2
    have ek1 : ks[j] = kk := (List.cons.inj e2).1
    have ek2 : ks.drop (j + 1) = ks' := (List.cons.inj e2).2
    refine wpAny_bind (wpAny_attempt (wpAny_mono (C _ s' σ H' pp q q1 G' v x _ kk (fun p hp => List.mem_cons_of_mem _ (List.mem_cons_of_mem _ (hpn p hp))) (code_go c g' hcs) I' g'.cf (Rv.mono g'.gg _ _ rv) ru e3) (fun z s'' he => ?_) fun _ _ hF => hF.elim))
    obtain ⟨zv, H2, I3, rz, G2, g2, rvz⟩ := he
    try dsimp only
    obtain ⟨hk1, hk0⟩ := I3.pin0
    have hsz : kA.size ≤ vs.length := by
      have h1 : kvs.length = kA.size := rk.length.trans Array.length_toList
      have h2 := rvk.length
      rw [List.length_take] at h2
      omega
    have s1 := Heap.SameBut.update s''.heap kS (Obj.mapSeq (·.push z))
    obtain ⟨c2, hc2⟩ : ∃ c2, (s''.heap.update kS (Obj.mapSeq (·.push z))).get? kS = some (lsO (kA.push z) c2) := ⟨_, PyProof.Rows.get?_update_seq hk1 (·.push z)⟩
    refine wpAny_bind (PyProof.Rows.listUpdate_at hk1 rfl ?_ (Nat.le_trans hsz hZ) (Nat.le_trans (Nat.le_of_eq (Array.size_push ..)) (Nat.succ_le_succ (Nat.le_trans hsz hZ))))
    have I4 : Inv X ((a, lsO #[] e1) :: pins) σ H2 { s'' with heap := s''.heap.update kS (Obj.mapSeq (·.push z)), toks := s''.toks } :=
      I3.pop.turned (it := kS) (fun b o hb q => (s1.2 b hb).trans q) hk0 nk.loc nk.ab nk.cell (nk' _).pin
    refine wpAny_pure ⟨rfl, H2, G2, q1, kvs ++ [zv], kA.push z, c2, I4.addPin (nk' _) hc2 hk0 (fun v w => by cases w), g'.trans g2, ?_, ?_, ?_, by omega⟩
    · rw [Array.toList_push]
      exact rk.append (.cons rz .nil)
    · rw [List.take_add_one, List.getElem?_eq_getElem hjk, ek1]
      exact (RvL.mono g2.gg _ _ rvk).app (.cons rvz .nil)
    · rw [ek2]
      exact e4
  case done =>
    rintro s' ⟨H', G', q, kvs, kA, e, I', g', rk, rvk, ekj, hj⟩
    simp only [Nat.zero_add, hvl] at rvk ekj hj
    rw [List.drop_length] at ekj
    have eq : q = ps' := by
      have z : some (([] : List PyData), q) = some (ks.drop ds.length, ps') := ekj
      exact (Prod.mk.inj (Option.some.inj z)).2
    subst eq
    rw [List.take_of_length_le (by omega)] at rvk
    obtain ⟨hk1, hk0⟩ := I'.pin0
    obtain ⟨ha1, ha0⟩ := I'.pop.pin0
    have hsz : kA.size = vs.length := by
      have h1 : kvs.length = kA.size := rk.length.trans Array.length_toList
      have h2 := rvk.length
      omega
    have hk' : PySem.W.EachIs (fun v k => ∃ as, Reads s'.heap v k as) kA.toList ks := each_reads I' g'.cf.ex rk rvk hlay
    try dsimp only
    refine wpAny_bind (PyProof.Rows.listItems_at hk1 rfl ?_)
    refine PySem.W.keyH_end (κ := PySem.W.dataKind s'.heap ks) (h₁ := PySem.W.hideAll s'.heap [kS]) (fun b o hb q => PySem.W.of_hideAll _ q) (PySem.W.hideAll_none _ (by simp)) hk1 ha1 hka
      (PySem.W.SortsAt.data (s := s') hk' hal hso fun d hd => ?_) hsz hZ fun h3 tk3 cc k3 n3 => ⟨rfl, ?_⟩
    · have := hdep d hd
      show X.A.units + 1 + 1 + d.depth < cLine
      omega
    · have ko : PySem.W.KeyedOut false ks vs (PySem.W.sortVals (PySem.W.dataKind s'.heap ks) false kA.toList vs) := ⟨s'.heap, kA.toList, hal, rfl, hk'⟩
      have em : (ks.zip ds).map (·.1) = ks := List.map_fst_zip (by omega)
      have ko' : PySem.W.KeyedOut false ((ks.zip ds).map fun p => p.1) vs (PySem.W.sortVals (PySem.W.dataKind s'.heap ks) false kA.toList vs) := by
        rw [em]
        exact ko
      have each := PySem.W.keyedOut_each (R := fun (u : Value) (p : PyData × PyData) => ∃ v, RelV v u ∧ Rv X.K pp G' v p.2) (fun p : PyData × PyData => p.1) ko' (vals_each rvs (RvL.mono g'.gg _ _ ra) hkl)
      obtain ⟨vo, r1, r2⟩ := each_vals each
      have hol : vo.length ≤ sizeLine := by
        rw [r1.length, ko.length (by omega)]
        exact hZ
      have Ie : Inv X pins σ (upd H' a (.lst vo)) { s' with heap := h3, toks := tk3 } := I'.pop.pop.sorted na nk ha0 hk0 (fun b o hb hb2 q => k3 b o hb (PySem.W.hideAll_get _ q (by simpa using hb2))) n3 r1 hol
      refine ⟨.ref a, _, Ie, rfl, ?_⟩
      have hGa : G' a = none := g'.cf.ex.free ha0
      have gl := Go.lay (ow := []) (o := .lst vo) g'.cf ha0
      exact k _ _ _ (g'.trans gl) (.lst (.inl upd_same) (RvL.mono gl.gg _ _ r2))
theorem sort_key {pn : List (Addr × Obj)} {cs : List (Addr × Str)} {pins : List (Addr × Obj)} {s : Shared} {σ : L2.St} {H : Hp} {Q : VK} {l : Addr} {fq : Addr} {fn : List PyData → Pt → Option (PyData × Pt)} {pp : Option Addr} {ps ps' : Pt} {G : Hp} {xs : List V} {ds ks : List PyData} (hpn : ∀ p ∈ pn, p ∈ pins) (hcs : ∀ p ∈ cs, H p.1 = some (LamX.CodeO p.1 p.2)) (I : Inv X pins σ H s) (hu : X.A.units + 66 < cLine) (C : CalA X pn cs (.ref fq) fn)
    (c : Cf pp ps G H) (hl : Rd G l (.lst xs)) (ra : RvL X.K pp G xs ds) (hf : fitsL ds = true) (ek : keysGo fn ds ps = some (ks, ps')) (hk : keysOk ks = true)
    (k : ∀ v G' H', Go pp ps' [] G H G' H' → Rv X.K pp G' v (.list (sortBy ks ds)) → Q v H') :
    wpAny (model X.prog X.w) X.A (call (.builtin "sorted") [.ref l] [(Str.ofString "key", .ref fq)]) (EP X pins σ Q) X.xe s := by
  unfold keysOk at hk
  rw [Bool.and_eq_true, Bool.and_eq_true, List.all_eq_true] at hk
  obtain ⟨⟨hal, hso⟩, hkk⟩ := hk
  have hlay : ∀ d ∈ ks, d.canLay0 = true := fun d hd => by
    have h1 := hkk d hd
    rw [Bool.and_eq_true] at h1
    exact of_decide_eq_true h1.1
  have hdep : ∀ d ∈ ks, d.depth ≤ 64 := fun d hd => by
    have h1 := hkk d hd
    rw [Bool.and_eq_true] at h1
    exact of_decide_eq_true h1.2
  obtain ⟨hz, vs, nn, rvs, ho⟩ := (same_l c.ex hl).ok I.hok
  have hvl : vs.length = ds.length := by rw [← rvs.length, ra.length]
  have hkl : ks.length = ds.length := keysGo_len ek
  have hZ : vs.length ≤ sizeLine := by
    rw [hvl]
    exact fits_size hf
  generalize ha : s.heap.objs.size + 1 = a
  refine PySem.W.sorted_of_sort ⟨_, ho, rfl, _, rfl⟩ hZ (PyProof.Rows.ksk_s1 _ _) (fun _ => PyProof.Rows.ksk_l1 _ _) fun E' => ?_
  rw [PyProof.Rows.ksk_t1, ha]
  have hcp : (PySem.W.copyHeap s.heap vs).get? a = some (PyProof.Rows.seqObj "list" vs.toArray 0) := by
    rw [← ha]
    exact PySem.W.copyHeap_at s.heap vs
  obtain ⟨e1, ho1⟩ : ∃ e1, ((PySem.W.copyHeap s.heap vs).update a (Obj.mapSeq fun _ => (#[] : Array Value))).get? a = some (PyProof.Rows.seqObj "list" #[] e1) := ⟨_, PyProof.Rows.get?_update_seq hcp fun _ => #[]⟩
  unfold PyProof.Rows.ksk_tree
  refine wpAny_bind (PyProof.Rows.listItems_at (s := { s with heap := PySem.W.copyHeap s.heap vs }) hcp rfl ?_)
  refine wpAny_bind (PyProof.Rows.listUpdate_at hcp rfl ?_ (by rw [List.size_toArray]; exact hZ) (Nat.zero_le _))
  refine wpAny_bind (PyProof.Rows.seqEpoch_at ho1 rfl ?_)
  refine wpAny_bind (wpAny_newTuple ?_ (by show vs.length ≤ _; exact hZ))
  refine wpAny_bind (wpAny_newList ?_ (Nat.zero_le _))
  refine wpAny_holding ?_
  have hb2 : ∀ b o, s.heap.get? b = some o → (PySem.W.sortingHeap (PySem.W.copyHeap s.heap vs) a vs).get? b = some o := fun b o q => PySem.W.sortingHeap_old (fun z => by
    have h1 := Heap.lt_size q
    rw [z, ← ha] at h1
    exact absurd h1 (Nat.not_lt.mpr (Nat.le_succ _))) (PySem.W.copyHeap_old q)
  have I1 : Inv X pins σ H { s with heap := PySem.W.sortingHeap (PySem.W.copyHeap s.heap vs) a vs, toks := s.toks } := I.kept hb2
  have na : NewAt X pins a := I.newAt (by rw [← ha]; exact Nat.le_succ _)
  have hHa : H a = none := I.hok.fresh (by rw [← ha]; exact Nat.le_succ _)
  generalize hks : (((PySem.W.copyHeap s.heap vs).update a (Obj.mapSeq fun _ => (#[] : Array Value))).push (PyProof.Rows.seqObj "tuple" vs.toArray 0)).objs.size = kS
  have hkge : a < kS := by
    have h1 : a < (PySem.W.copyHeap s.heap vs).objs.size := Heap.lt_size hcp
    rw [← hks, PyProof.Rows.size_push', Heap.size_update]
    exact Nat.lt_succ_of_lt h1
  have hge : s.heap.objs.size ≤ kS := by
    have : s.heap.objs.size + 1 < kS := by
      rw [ha]
      exact hkge
    exact Nat.le_of_lt (Nat.lt_of_succ_lt this)
  have nk : NewAt X pins kS := I.newAt hge
  have hHk : H kS = none := I.hok.fresh hge
  have hka : kS ≠ a := Nat.ne_of_gt hkge
  have ga : (PySem.W.sortingHeap (PySem.W.copyHeap s.heap vs) a vs).get? a = some (lsO #[] e1) := Heap.get?_push_of_some _ (Heap.get?_push_of_some _ ho1)
  have gk : (PySem.W.sortingHeap (PySem.W.copyHeap s.heap vs) a vs).get? kS = some (lsO #[] 0) := by
    rw [← hks]
    exact Heap.get?_push_size _ rfl
  have I2 : Inv X ((kS, lsO #[] 0) :: (a, lsO #[] e1) :: pins) σ H { s with heap := PySem.W.sortingHeap (PySem.W.copyHeap s.heap vs) a vs, toks := s.toks } := by
    refine (I1.addPin na ga hHa (fun v w => by cases w)).addPin ⟨nk.ab, nk.loc, nk.cell, fun p hp => ?_, nk.fs⟩ gk hHk (fun v w => by cases w)
    rcases List.mem_append.mp hp with h | h
    · exact nk.pin p (List.mem_append_left _ h)
    · rcases List.mem_cons.mp h with rfl | h
      · exact hka.symm
      · exact nk.pin p (List.mem_append_right _ h)
  have fin := sort_rest (E' := E') hpn hcs I2 na nk hka hu C c rvs ra hZ ek (allAlike_of hal) (sortable_of hso) hlay hdep hHa k
  exact fin
/-- sorted(e, key=f) -/
def kwKey (e : Expr) (p : Pos) : List Keyword := [⟨some (Str.ofString "key"), e, p⟩]
theorem pd_sortK {k : Nat} {f : Addr} {fd : FuncData} {qn y : Str} {fn : List PyData → Pt → Option (PyData × Pt)} {e : Expr} {g : EG} {p pos py kp : Pos} (F : FnD X.prog X.w X.K X.mg X.base k f fd [qn] fn) (hr : Room (k + 1) X.A) (hb : Binds X.K fd [qn] []) (hg : Gl X "sorted") (hm : X.mg "sorted" = none) (hgy : Gl X y) (hmy : X.mg y = some (.ref f)) (h : PD X e g)
    (hdy : (y == ("__debug__" : Str)) = false := by decide) (he : starEach [e] X.env = (false, eval e X.env) :: starEach [] X.env := by rfl) (he2 : backTo pos (starEach [e] X.env) = (false, eval e X.env) :: backTo pos (starEach [] X.env) := by rfl) (hpl : (backTo pos (starEach [e] X.env)).any (·.1) = false := by rfl) : PD X (.Call (.Name "sorted" p) [e] [⟨some (Str.ofString "key"), .Name y py, kp⟩] pos) (eSortK fn g) := by
  have C : CalA X [] [] (.ref f) fn := cal_def F hr hb
  have hu : X.A.units + 66 < cLine := by
    have := hr.un
    omega
  have hc : CallRK X (.builtin "sorted") [Str.ofString "key"] (fun vs zs H Q => zs = [.ref f] ∧ ∃ (pp : Option Addr) (q q' : Pt) (G : Hp) (ds ks : List PyData), Cf pp q G H ∧ RvL X.K pp G vs [.list ds] ∧ fitsL ds = true ∧ keysGo fn ds q = some (ks, q') ∧ keysOk ks = true ∧ ∀ v G' H', Go pp q' [] G H G' H' → Rv X.K pp G' v (.list (sortBy ks ds)) → Q v H') := by
    intro pins s σ H vs zs us ws Q I r rz ⟨ez, pp, q, q', G, ds, ks, c, rv, hf, ek, hk, kk⟩
    subst ez
    obtain ⟨v, rfl, rv1⟩ := rvl_one rv
    obtain ⟨l, xs, rfl, hl, ra⟩ := rv_lst rv1
    cases r with
    | cons r0 r1 =>
      cases r1
      cases r0
      cases rz with
      | cons z0 z1 =>
        cases z1
        cases z0
        exact sort_key (fun _ h => absurd h (by simp)) (fun _ h => absurd h (by simp)) I hu C c hl ra hf ek hk kk
  refine pe_imp (pe_callBK hc hg hm (by decide +kernel) (pa_cons h pa_nil he) (pk_cons (pe_glob (v := .ref f) hgy hmy rfl hdy) pk_nil) (by decide) (by decide) he2 hpl) fun σ H Q ⟨pp, ps, G, S, d, ps', c, s, e, k⟩ => ?_
  obtain ⟨x, p1, e1, e⟩ := bindP_inv e
  split at e
  · next ds =>
    split at e
    · next hf =>
      obtain ⟨ks, p2, e2, e⟩ := bindP_inv e
      obtain ⟨hk, e⟩ := ite_inv e
      cases e
      exact ⟨pp, ps, G, S, _, p1, c, s, e1, fun v G1 H1 g1 r1 => ⟨rfl, pp, p1, _, G1, ds, ks, g1.cf, .cons r1 .nil, hf, e2, hk, fun v G2 H2 g2 r2 => k v G2 H2 (g1.trans g2) r2⟩⟩
    · cases e
  · cases e
end
end DL

set_option Elab.async false
set_option linter.all false
set_option maxRecDepth 100000
/-! D-layer, part h: list({x: True for x in e}), the tuples of e each once, in the order of their first coming. -/
namespace DL
open PySem L2
variable [TBL]

mutual
def nkey : PyData → Option NestedKey
  | .none => some .none
  | .bool b => some (.num (if b = true then 1 else 0))
  | .int i => some (.num i)
  | .str x => some (.text x)
  | .tuple ds => (nkeys ds).map .tup
  | .list _ => none
  | .dict _ => none
def nkeys : List PyData → Option (List NestedKey)
  | [] => some []
  | d :: ds => (nkey d).bind fun k => (nkeys ds).map fun ks => k :: ks
end
mutual
theorem nkey_is {h : Heap} : ∀ (d : PyData) (k : NestedKey) (u : Value) (as : List Addr), nkey d = some k → Reads h u d as → NestedIs h k u
  | .none, k, u, as, e, r => by
    cases e
    cases r
    exact .none
  | .bool b, k, u, as, e, r => by
    cases e
    cases r
    exact .bool rfl
  | .int i, k, u, as, e, r => by
    cases e
    cases r
    exact .int i _
  | .str x, k, u, as, e, r => by
    cases e
    cases r
    exact .text x _
  | .tuple ds, k, u, as, e, r => by
    have e' : (nkeys ds).map NestedKey.tup = some k := by simpa only [nkey] using e
    obtain ⟨ks, h1, rfl⟩ := map_inv e'
    cases r with
    | tuple a b c d => exact .tup a b c (nkeys_is ds ks _ _ h1 d)
  | .list ds, k, u, as, e, r => by simp [nkey] at e
  | .dict ds, k, u, as, e, r => by simp [nkey] at e
theorem nkeys_is {h : Heap} : ∀ (ds : List PyData) (ks : List NestedKey) (us : List Value) (as : List Addr), nkeys ds = some ks → ReadsAll h us ds as → NestedAll h ks us
  | [], ks, us, as, e, r => by
    have e' : some [] = some ks := by simpa only [nkeys] using e
    cases e'
    cases r
    exact .nil
  | d :: ds, ks, us, as, e, r => by
    have e' : ((nkey d).bind fun k => (nkeys ds).map fun ks => k :: ks) = some ks := by simpa only [nkeys] using e
    cases h1 : nkey d with
    | none =>
      rw [h1] at e'
      cases e'
    | some k =>
      rw [h1] at e'
      obtain ⟨ks', h2, rfl⟩ := map_inv (show (nkeys ds).map (fun ks => k :: ks) = some ks from e')
      cases r with
      | cons a b => exact .cons (nkey_is d k _ _ h1 a) (nkeys_is ds ks' _ _ h2 b)
end
def isTupD : PyData → Bool
  | .tuple _ => true
  | _ => false
abbrev NP := NestedKey × PyData
def uqPut (k : NestedKey) (d : PyData) (acc : List NP) : List NP := if acc.any (fun p => decide (p.1 = k)) then acc else acc ++ [(k, d)]
def uqGo : List PyData → List NP → Option (List NP)
  | [], acc => some acc
  | d :: ds, acc => match nkey d with
    | none => none
    | some k => if decide (k.depth ≤ 8) && isTupD d && decide (d.canLay0 = true) then uqGo ds (uqPut k d acc) else none
def uniqD (x : PyData) : Option PyData := match items x with
  | some ds => if fitsL ds then (uqGo ds []).map fun acc => .list (acc.map (·.2)) else none
  | none => none
theorem uqGo_cons {d : PyData} {ds : List PyData} {acc out : List NP} (h : uqGo (d :: ds) acc = some out) : ∃ k, nkey d = some k ∧ k.depth ≤ 8 ∧ isTupD d = true ∧ d.canLay0 = true ∧ uqGo ds (uqPut k d acc) = some out := by
  unfold uqGo at h
  split at h
  · cases h
  · next k e =>
    split at h
    · next hc =>
      rw [Bool.and_eq_true, Bool.and_eq_true] at hc
      exact ⟨k, e, of_decide_eq_true hc.1.1, hc.1.2, of_decide_eq_true hc.2, h⟩
    · cases h
/-- a dict at D whose keys, in order, are vs -/
def KeysO (D : Addr) (vs : List V) : HO := .ext fun h => ∃ es ep, h.DictRaw D es ep ∧ Vals vs (es.toList.map (·.key)) ∧ (D == sysModules) = false
/-- the entries of the dict and the data -/
structure EntOk (K : PySem.W.Frag) (pp : Option Addr) (G : Hp) (h : Heap) (x : NestedKey × Addr × Value) (p : NP) : Prop where
  key : x.1 = p.1
  val : x.2.2 = .bool true
  dat : Rv K pp G (.ref x.2.1) p.2
  isk : NestedIs h x.1 (.ref x.2.1) ∧ x.1.depth ≤ 8
theorem ent_at {K : PySem.W.Frag} {pp : Option Addr} {G : Hp} {h : Heap} {k : NestedKey} : ∀ {xs : List (NestedKey × Addr × Value)} {acc : List NP}, Paired (EntOk K pp G h) xs acc → (atKey xs k).isSome = acc.any (fun p => decide (p.1 = k))
  | _, _, .nil => rfl
  | _, _, .cons (a := x) (b := p) r t => by
    have ih := ent_at (k := k) t
    unfold atKey at ih ⊢
    rw [List.find?_cons, List.any_cons, r.key]
    by_cases hx : p.1 = k
    · simp [hx]
    · simp only [hx, decide_false, Bool.false_or]
      exact ih
theorem ent_put {K : PySem.W.Frag} {pp : Option Addr} {G : Hp} {h : Heap} {k : NestedKey} : ∀ {xs : List (NestedKey × Addr × Value)} {acc : List NP}, Paired (EntOk K pp G h) xs acc → xs.map (putAt k (.bool true)) = xs
  | _, _, .nil => rfl
  | _, _, .cons (a := x) r t => by
    rw [List.map_cons, ent_put t]
    unfold putAt
    split
    · obtain ⟨a, b, c⟩ := x
      have := r.val
      simp only at this
      rw [this]
    · rfl
theorem ent_stored {K : PySem.W.Frag} {pp : Option Addr} {G : Hp} {h : Heap} {k : NestedKey} {a : Addr} {d : PyData} {xs : List (NestedKey × Addr × Value)} {acc : List NP} (P : Paired (EntOk K pp G h) xs acc) (hd : Rv K pp G (.ref a) d) (hk : NestedIs h k (.ref a) ∧ k.depth ≤ 8) : Paired (EntOk K pp G h) (storedH xs k a (.bool true)) (uqPut k d acc) := by
  unfold storedH uqPut
  rw [ent_at P]
  split
  · rw [ent_put P]
    exact P
  · exact P.snoc ⟨rfl, rfl, hd, hk⟩
theorem ent_keep {K : PySem.W.Frag} {pp : Option Addr} {G : Hp} {h h' : Heap} (hk : ∀ a o vs n, h.get? a = some o → o.data = .seq vs n → h'.get? a = some o) {xs : List (NestedKey × Addr × Value)} {acc : List NP} (P : Paired (EntOk K pp G h) xs acc) : Paired (EntOk K pp G h') xs acc := by
  induction P with
  | nil => exact .nil
  | cons r t ih => exact .cons ⟨r.key, r.val, r.dat, NestedIs.at hk _ _ r.isk.1, r.isk.2⟩ ih
theorem ent_vals {K : PySem.W.Frag} {pp : Option Addr} {G : Hp} {h : Heap} : ∀ {xs : List (NestedKey × Addr × Value)} {acc : List NP}, Paired (EntOk K pp G h) xs acc → Vals (xs.map fun x => V.ref x.2.1) (xs.map fun x => Value.ref x.2.1) ∧ RvL K pp G (xs.map fun x => V.ref x.2.1) (acc.map (·.2))
  | _, _, .nil => ⟨.nil, .nil⟩
  | _, _, .cons r t => ⟨.cons rfl (ent_vals t).1, .cons r.dat (ent_vals t).2⟩
theorem uqPut_len (k : NestedKey) (d : PyData) (acc : List NP) : (uqPut k d acc).length ≤ acc.length + 1 := by
  unfold uqPut
  split
  · omega
  · simp
section
variable {X : Cx}
/-- the comprehension itself, over an iterator that gives the items one by one -/
theorem uq_goes {pins : List (Addr × Obj)} {σ : L2.St} {H : Hp} {sB : Shared} {Q : VK} {x : Str} {scope : Scope} {p1 p2 p3 : Pos} {j : Nat} {cl : List (Str × Addr)} {it : Addr} {ob : Obj} {fp : List Addr} {St : Nat → Heap → Prop} {items : List Value} {xs : List V} {ds : List PyData} {acc : List NP} {pp : Option Addr} {q : Pt} {G : Hp}
    (I : Inv X pins σ H sB) (hit : it = sB.heap.objs.size) (Gs : Goes X.prog X.w X.A (.Name x p2) it fp [it] items.toArray.size (fun i v _ => items.toArray[i]? = some v) St) (h0 : St 0 (sB.heap.push ob)) (hfp : ∀ b ∈ fp, b = it ∨ ∃ o, sB.heap.get? b = some o)
    (hx : scope.names.lookup x = some .local) (hkind : scope.kind = .function) (hu : X.A.units + 8 < cLine) (rvs : Vals xs items) (ra : RvL X.K pp G xs ds) (c : Cf pp q G H) (hf : fitsL ds = true) (eu : uqGo ds [] = some acc) (hdb : (x == ("__debug__" : Str)) = false)
    (k : ∀ D vs, H D = none → RvL X.K pp G vs (acc.map (·.2)) → Q (.ref D) (upd H D (KeysO D vs))) :
    DcGoes X.prog X.w X.A X.xe X.env scope cl (.Name x p2) [] (.Name x p1) (.Constant (.bool true) j p3) none (EP X pins σ Q) (.ref it) { sB with heap := sB.heap.push ob } := by
  refine ⟨it, fp, [it], items.toArray.size, _, St, rfl, Gs, h0, fun D C s3 cb hD3 => ?_⟩
  have hil : items.length = ds.length := by rw [← rvs.length, ra.length]
  have szs : sB.heap.objs.size < D ∧ sB.heap.objs.size < C := by
    have h1 := cb.newD
    have h2 := cb.newC
    have h3 : ({ sB with heap := sB.heap.push ob } : Shared).heap.objs.size = sB.heap.objs.size + 1 := PyProof.Rows.size_push' _ _
    rw [h3] at h1 h2
    exact ⟨h1, h2⟩
  have hDit : D ≠ it := fun z => absurd szs.1 (by rw [z, hit]; exact Nat.lt_irrefl _)
  have hCit : C ≠ it := fun z => absurd szs.2 (by rw [z, hit]; exact Nat.lt_irrefl _)
  have nD : ∀ b o, sB.heap.get? b = some o → b ≠ D ∧ b ≠ C ∧ b ≠ it := fun b o e => by
    have := Heap.lt_size e
    refine ⟨fun z => ?_, fun z => ?_, fun z => ?_⟩
    · exact absurd (Nat.lt_trans this (z ▸ szs.1)) (Nat.lt_irrefl _)
    · exact absurd (Nat.lt_trans this (z ▸ szs.2)) (Nat.lt_irrefl _)
    · exact absurd this (by rw [z, hit]; exact Nat.lt_irrefl _)
  have fpne : ∀ b ∈ fp, b ≠ D ∧ b ≠ C := fun b hb => by
    rcases hfp b hb with rfl | ⟨o, e⟩
    · exact ⟨hDit.symm, hCit.symm⟩
    · exact ⟨(nD b o e).1, (nD b o e).2.1⟩
  have room : (nestedKind X.prog X.w).room X.A := hu
  let env := compEnvC scope cl C X.env
  have hkx : env.kindOf x = some .local := PySem.lookup_relabel_local hx
  have hek : env.scope.kind = .function := hkind
  have hcls : (env.scope.kind == .class || (env.scope.kind == .module && env.locals != env.globals)) = false := by rw [hek]; rfl
  refine ⟨fun i s1 => ∃ h tk es acci m, s1 = { sB with heap := h, toks := tk } ∧ (∀ b o, sB.heap.get? b = some o → h.get? b = some o) ∧ h.Ns C m ∧ h.DictOfH (nestedKind X.prog X.w) D es ∧ Paired (EntOk X.K pp G sB.heap) es acci ∧ uqGo (ds.drop i) acci = some acc ∧ acci.length ≤ i ∧ i ≤ ds.length, ?_, ?_, ?_, ?_⟩
  · obtain ⟨h3, tk, e3⟩ := cb.only
    refine ⟨h3, tk, [], [], fun _ => none, ?_, fun b o e => ?_, ?_, ?_, .nil, by rw [List.drop_zero]; exact eu, Nat.le_refl _, Nat.zero_le _⟩
    · rw [e3]
    · have := cb.old b o (Heap.get?_push_of_some _ e)
      rw [e3] at this
      exact this
    · have := cb.names
      rw [e3] at this
      exact this
    · rw [e3] at hD3
      exact ⟨_, #[], 0, hD3, ⟨rfl, rfl, rfl⟩, rfl, rfl, fun _ hx => by simp at hx, List.nodup_nil⟩
  · rintro i s1 h' tk' ⟨h, tk, es, acci, m, rfl, hold, hns, hd, P, eg, hla, hi⟩ hk htk
    obtain ⟨o, e1, ep, d1, d2, d3, d4, d5, d6⟩ := hd
    have old' : ∀ b o, sB.heap.get? b = some o → h'.get? b = some o := fun b o e => hk b o (by simpa using (nD b o e).2.2) (hold b o e)
    obtain ⟨on, n1, n2, n3, n4⟩ := hns
    refine ⟨h', tk', es, acci, m, rfl, old', ⟨on, n1, n2, hk C _ (by simpa using hCit) n3, n4⟩, ⟨o, e1, ep, hk D _ (by simpa using hDit) d1, d2, d3, d4, fun y hy => ?_, d6⟩, P, eg, hla, hi⟩
    have P' := ent_keep (h' := h') (fun a o vs n e _ => old' a o e) P
    have : ∀ {xs : List (NestedKey × Addr × Value)} {ac : List NP}, Paired (EntOk X.K pp G h') xs ac → ∀ y ∈ xs, NestedIs h' y.1 (.ref y.2.1) ∧ y.1.depth ≤ 8 := by
      intro xs ac Pq
      induction Pq with
      | nil => intro y hy; cases hy
      | cons r t ih =>
        intro y hy
        rcases List.mem_cons.mp hy with rfl | hy
        · exact r.isk
        · exact ih y hy
    exact this P' y hy
  · rintro i v s1 hi hv hst ⟨h, tk, es, acci, m, rfl, hold, hns, hd, P, eg, hla, hile⟩
    have hi' : i < items.length := by simpa using hi
    have hid : i < ds.length := by omega
    have hv' : items[i]? = some v := by simpa using hv
    rw [List.drop_eq_getElem_cons hid] at eg
    obtain ⟨kk, ek1, ek2, ek3, ek4, eg'⟩ := uqGo_cons eg
    obtain ⟨w, hw, rw'⟩ := ra.get (List.getElem?_eq_getElem hid)
    obtain ⟨u, hu', ru⟩ := rvs.get hw
    rw [hv'] at hu'
    cases hu'
    obtain ⟨a, rfl⟩ : ∃ a, w = .ref a := by
      cases e : ds[i] with
      | tuple l =>
        rw [e] at rw'
        obtain ⟨a, _, rfl, _, _⟩ := rv_tup rw'
        exact ⟨a, rfl⟩
      | _ =>
        rw [e] at ek3
        cases ek3
    cases ru
    have isk : NestedIs sB.heap kk (.ref a) := by
      obtain ⟨as, rr⟩ := Dp.reads I _ _ _ (Rv.dp c.ex _ _ rw' ek4) (rfl : RelV (.ref a) (.ref a))
      exact nkey_is _ _ _ _ ek1 rr
    refine wpAny_assign_Name (wpAny_storeName_local hkx hns (fun h1 hn1 hs1 => ?_) hcls)
    have old1 : ∀ b o, sB.heap.get? b = some o → h1.get? b = some o := fun b o e => (hs1.2 b (nD b o e).2.1).trans (hold b o e)
    refine wpAny_tests_nil ?_
    rw [if_pos rfl]
    refine wpAny_Name (wpAny_loadName_local (v := .ref a) hek hkx hn1 (by simp) ?_) hdb
    refine PyProof.Rows.Constant_bool ?_
    have hd1 : h1.DictOfH (nestedKind X.prog X.w) D es := by
      obtain ⟨o, e1, ep, d1, d2, d3, d4, d5, d6⟩ := hd
      refine ⟨o, e1, ep, (hs1.2 D cb.ne).trans d1, d2, d3, d4, fun y hy => ?_, d6⟩
      have h5 := d5 y hy
      have P' := ent_keep (h' := h1) (fun a o vs n e _ => old1 a o e) P
      have : ∀ {xs : List (NestedKey × Addr × Value)} {ac : List NP}, Paired (EntOk X.K pp G h1) xs ac → ∀ y ∈ xs, NestedIs h1 y.1 (.ref y.2.1) ∧ y.1.depth ≤ 8 := by
        intro xs ac Pq
        induction Pq with
        | nil => intro y hy; cases hy
        | cons r t ih =>
          intro y hy
          rcases List.mem_cons.mp hy with rfl | hy
          · exact r.isk
          · exact ih y hy
      exact this P' y hy
    have hlen : es.length ≤ sizeLine := by
      have h1 : es.length = acci.length := Paired.length P
      have h2 := fits_size hf
      omega
    refine wpAny_dictSet_heap (s := { sB with heap := h1, toks := tk + 1 }) (k := kk) room ⟨NestedIs.at (fun a o vs n e _ => old1 a o e) _ _ isk, ek2⟩ hd1 (fun h2 hd2 hs2 => ?_) hlen
    refine ⟨?_, ?_⟩
    · obtain ⟨on, n1, n2, n3, n4⟩ := hn1
      refine ⟨h2, _, _, uqPut kk ds[i] acci, _, rfl, fun b o e => (hs2.2 b (nD b o e).1).trans (old1 b o e), ⟨on, n1, n2, (hs2.2 C cb.ne.symm).trans n3, n4⟩, hd2, ent_stored P rw' ⟨isk, ek2⟩, eg', ?_, by omega⟩
      have := uqPut_len kk ds[i] acci
      omega
    · exact Gs.frame _ _ _ (Gs.frame _ _ _ hst fun b hb o e => (hs1.2 b (fpne b hb).2).trans e) fun b hb o e => (hs2.2 b (fpne b hb).1).trans e
  · rintro s1 ⟨h, tk, es, acci, m, rfl, hold, hns, hd, P, eg, hla, hile⟩
    refine ⟨m, hns, fun h' hs' => ?_⟩
    have old' : ∀ b o, sB.heap.get? b = some o → h'.get? b = some o := fun b o e => (hs'.2 b (nD b o e).2.1).trans (hold b o e)
    have esz : items.toArray.size = ds.length := by simpa using hil
    rw [esz, List.drop_length] at eg
    have eacc : acci = acc := Option.some.inj (show some acci = some acc from eg)
    subst eacc
    obtain ⟨o, e1, ep, d1, d2, d3, d4, d5, d6⟩ := hd
    have dD : h'.get? D = some o := (hs'.2 D cb.ne).trans d1
    obtain ⟨v1, v2⟩ := ent_vals P
    have hD0 : H D = none := I.hok.fresh (Nat.le_of_lt szs.1)
    have ekeys : e1.toList.map (·.key) = es.map fun x => Value.ref x.2.1 := by
      rw [d4, List.map_map]
      rfl
    have I' : Inv X pins σ (upd H D (KeysO D (es.map fun x => V.ref x.2.1))) { sB with heap := h', toks := tk } := I.laid old' (Nat.le_of_lt szs.1) ⟨⟨e1, ep, ⟨o, dD, d2, d3⟩, by rw [ekeys]; exact v1, beq_eq_false_iff_ne.mpr (Nat.ne_of_gt (Nat.lt_trans I.big szs.1))⟩, ⟨o, dD⟩, fun h1 h2 ⟨es', ep', hr, hv⟩ hk => ⟨es', ep', hr.at hk, hv⟩⟩
    exact ⟨.ref D, _, I', rfl, k D _ hD0 v2⟩
end
end DL

set_option Elab.async false
set_option linter.all false
set_option maxRecDepth 100000
namespace DL
open PySem L2
variable [TBL]
theorem uq_len : ∀ (ds : List PyData) (acc out : List NP), uqGo ds acc = some out → out.length ≤ acc.length + ds.length
  | [], acc, out, h => by
    cases h
    simp
  | d :: ds, acc, out, h => by
    obtain ⟨k, _, _, _, _, h2⟩ := uqGo_cons h
    have h3 := uq_len ds _ _ h2
    have h4 := uqPut_len k d acc
    rw [List.length_cons]
    omega
section
variable {X : Cx}
def tUq (K : PySem.W.Frag) (g : EG) : TE := fun σ H Q => ∃ (pp : Option Addr) (ps : Pt) (G : Hp) (S : Sd) (d : PyData) (ds : List PyData) (acc : List NP) (ps' : Pt), Cf pp ps G H ∧ Sl K pp G H S σ ∧ g S ps = some (d, ps') ∧ items d = some ds ∧ fitsL ds = true ∧ uqGo ds [] = some acc ∧
  ∀ D vs G' H', Go pp ps' [] G H G' H' → H' D = none → RvL K pp G' vs (acc.map (·.2)) → Q (.ref D) (upd H' D (KeysO D vs))
theorem pe_uq {x : Str} {iter : Expr} {scope : Scope} {g : EG} {p1 p2 p3 pos : Pos} {j : Nat} (hc : X.calm = true) (hu : X.A.units + 8 < cLine) (hi : PD X iter g) (hx : scope.names.lookup x = some .local) (hkind : scope.kind = .function) (hall : ∀ y ∈ scope.names, y.2 ≠ .cell ∧ y.2 ≠ .free) (hnm : ∀ y ∈ scope.names, y.2 = .local → scope.names.lookup y.1 = some .local)
    (hdb : (x == ("__debug__" : Str)) = false := by decide) (hs : ∀ x, foldedSetIterable iter X.env x = pure x := by intro _; rfl) : PE X (.DictComp (.Name x p1) (.Constant (.bool true) j p3) [⟨.Name x p2, iter, [], 0⟩] scope pos) (tUq X.K g) := by
  refine ⟨fun pins s σ H Q I h => ?_⟩
  obtain ⟨pp, ps, G, S, d, ds, acc, ps', c, sl, e, ei, hf, eu, k⟩ := h
  refine DictComp_goes (cl := cloFrom X.env.cells scope.names []) (closure_ok fun y hy z => absurd z (hall y hy).2) (fun y hy => (hall y hy).1) hkind hnm ?_ hs
  refine thn (hi.run pins s σ H (fun v H1 => ∃ G1, Go pp ps' [] G H G1 H1 ∧ Rv X.K pp G1 v d) I ⟨pp, ps, G, S, d, ps', c, sl, e, fun v G1 H1 g1 r1 => ⟨G1, g1, r1⟩⟩) fun xv s1 ⟨v, H1, I1, rx, G1, g1, r1⟩ => ?_
  have hh : X.A.handled = none := I1.ok.hd hc
  cases d with
  | list l =>
    cases ei
    obtain ⟨a, xs, rfl, hl, ra⟩ := rv_lst r1
    cases rx
    obtain ⟨hz, its, nn, rvs, ho⟩ := (same_l g1.cf.ex hl).ok I1.hok
    have hil : s1.heap.IsList a its.toArray := ⟨_, ho, rfl, _, rfl⟩
    have hne : a ≠ s1.heap.objs.size := Nat.ne_of_lt (Heap.lt_size ho)
    refine wpAny_pyIter_list hil ?_
    refine uq_goes I1 rfl (Goes.list hh s1.heap.objs.size a hne its.toArray) ⟨⟨_, Heap.get?_push_size _ rfl, rfl, rfl⟩, ⟨_, Heap.get?_push_of_some _ ho, rfl, _, rfl⟩⟩ (fun b hb => ?_) hx hkind hu rvs ra g1.cf hf eu hdb fun D vs hD rv => k D vs G1 H1 g1 hD rv
    rcases List.mem_cons.mp hb with rfl | hb
    · exact .inl rfl
    · rcases List.mem_cons.mp hb with rfl | hb
      · exact .inr ⟨_, ho⟩
      · cases hb
  | tuple l =>
    cases ei
    obtain ⟨a, xs, rfl, hl, ra⟩ := rv_tup r1
    cases rx
    obtain ⟨its, rvs, ht, hz⟩ := I1.tuple (cf_t g1.cf hl)
    obtain ⟨o, ho, hcl, nn, hd⟩ := ht
    have hil : s1.heap.IsTuple a its.toArray := ⟨o, ho, hcl, nn, hd⟩
    have hne : a ≠ s1.heap.objs.size := Nat.ne_of_lt (Heap.lt_size ho)
    refine wpAny_pyIter_tuple hil ?_
    refine uq_goes I1 rfl (Goes.tuple hh s1.heap.objs.size a hne its.toArray) ⟨⟨_, Heap.get?_push_size _ rfl, rfl, rfl⟩, ⟨o, Heap.get?_push_of_some _ ho, hcl, nn, hd⟩⟩ (fun b hb => ?_) hx hkind hu rvs ra g1.cf hf eu hdb fun D vs hD rv => k D vs G1 H1 g1 hD rv
    rcases List.mem_cons.mp hb with rfl | hb
    · exact .inl rfl
    · rcases List.mem_cons.mp hb with rfl | hb
      · exact .inr ⟨_, ho⟩
      · cases hb
  | _ => cases ei
theorem cd_listKeys (hc : X.calm = true) : CallR X (.type "list") (fun xs H Q => ∃ D vs, xs = [.ref D] ∧ H D = some (KeysO D vs) ∧ vs.length ≤ sizeLine ∧ ∀ l, H l = none → Q (.ref l) (upd H l (.lst vs))) := by
  intro pins s σ H xs us Q I rs ⟨D, vs, ex, hD, hz, k⟩
  subst ex
  cases rs with
  | cons r t =>
    cases t
    cases r
    obtain ⟨⟨es, ep, hr, hv, hb⟩, _, _⟩ := I.hok D _ hD
    have hn : es.size = vs.length := by
      have := hv.length
      rw [List.length_map, Array.length_toList] at this
      exact this.symm
    refine PySem.W.kdl_call (PySem.KdlSrc.rawDict hb) (I.ok.hd hc) hr (by rw [hn]; exact hz) fun h' tk acc' c' hk hl hi => ?_
    have e2 : acc'.toList = es.toList.map (·.key) := by
      apply List.ext_getElem?
      intro i
      obtain ⟨h1, h2⟩ := hi
      rw [Array.getElem?_toList, List.getElem?_map, Array.getElem?_toList]
      by_cases hlt : i < es.size
      · have hlt' : i < acc'.size := by omega
        obtain ⟨hi', ev⟩ := h2 i acc'[i] (Array.getElem?_eq_getElem hlt')
        rw [Array.getElem?_eq_getElem hlt', Array.getElem?_eq_getElem hlt, ev]
        rfl
      · rw [Array.getElem?_eq_none (by omega), Array.getElem?_eq_none (by omega)]
        rfl
    refine ⟨.ref _, upd H s.heap.objs.size (.lst vs), I.laid hk (Nat.le_refl _) ⟨hz, acc'.toList, c', by rw [e2]; exact hv, by simpa using hl⟩, rfl, k _ (I.hok.fresh (Nat.le_refl _))⟩
/-- list({x: True for x in e}) -/
theorem pd_uniq {x : Str} {iter : Expr} {scope : Scope} {g : EG} {p p1 p2 p3 pos pos2 : Pos} {j : Nat} (hc : X.calm = true) (hu : X.A.units + 8 < cLine) (hg : Gl X "list") (hm : X.mg "list" = none) (hi : PD X iter g) (hx : scope.names.lookup x = some .local) (hkind : scope.kind = .function) (hall : ∀ y ∈ scope.names, y.2 ≠ .cell ∧ y.2 ≠ .free)
    (hnm : ∀ y ∈ scope.names, y.2 = .local → scope.names.lookup y.1 = some .local) (hdb : (x == ("__debug__" : Str)) = false := by decide) (hs : ∀ x, foldedSetIterable iter X.env x = pure x := by intro _; rfl)
    (he : starEach [.DictComp (.Name x p1) (.Constant (.bool true) j p3) [⟨.Name x p2, iter, [], 0⟩] scope pos2] X.env = (false, eval (.DictComp (.Name x p1) (.Constant (.bool true) j p3) [⟨.Name x p2, iter, [], 0⟩] scope pos2) X.env) :: starEach [] X.env := by rfl) (hpl : (backTo pos (starEach [] X.env)).any (·.1) = false := by rfl) :
    PD X (.Call (.Name "list" p) [.DictComp (.Name x p1) (.Constant (.bool true) j p3) [⟨.Name x p2, iter, [], 0⟩] scope pos2] [] pos) (eUn uniqD g) :=
  pe_imp (pe_callTy (cd_listKeys hc) hg hm (by decide +kernel) (pa_cons (pe_uq hc hu hi hx hkind hall hnm hdb hs) pa_nil he) (by decide) (by decide) he hpl) fun σ H Q ⟨pp, ps, G, S, d, ps', c, s, e, k⟩ => by
    obtain ⟨y, p1, e1, e⟩ := bindP_inv e
    obtain ⟨d', e2, e⟩ := map_inv e
    cases e
    unfold uniqD at e2
    split at e2
    · next ds ei =>
      split at e2
      · next hf =>
        obtain ⟨acc, ea, rfl⟩ := map_inv e2
        refine ⟨pp, ps, G, S, y, ds, acc, ps', c, s, e1, ei, hf, ea, fun D vs G1 H1 g1 hD rv => ⟨D, vs, rfl, upd_same, ?_, fun l hl => ?_⟩⟩
        · have h1 : acc.length ≤ ds.length := by
            have := uq_len ds [] acc ea
            simpa using this
          have h2 := fits_size hf
          rw [rv.length, List.length_map]
          omega
        · have gh : Go pp ps' [] G1 H1 G1 (upd H1 D (KeysO D vs)) := Go.hide g1.cf hD
          have gl : Go pp ps' [] G1 (upd H1 D (KeysO D vs)) (upd G1 l (.lst vs)) (upd (upd H1 D (KeysO D vs)) l (.lst vs)) := Go.lay gh.cf hl
          exact k _ _ _ ((g1.trans gh).trans gl) (.lst (.inl upd_same) (RvL.mono gl.gg _ _ rv))
      · cases e2
    · cases e2
end
end DL

set_option Elab.async false
set_option linter.all false
set_option maxRecDepth 100000
/-! D-layer, part j: the pot: made, drawn from, given up again. -/
namespace DL
open PySem L2
variable [TBL]
def isPot : PyData → Bool
  | .dict [(.none, .none), (.none, .none)] => true
  | _ => false
theorem isPot_eq {d : PyData} (h : isPot d = true) : d = potD := by
  unfold isPot at h
  split at h
  · rfl
  · cases h
/-- the numbers that a draw gives and leaves -/
def drawV (m : Int) (ps : Pt) : Int := if 0 < ps.1 then ps.1 % m else ((ps.2 * 39373 + 12227) % 2147483629 * ((ps.2 * 39373 + 12227) % 2147483629) % 2147483563 / 13) % m
def drawS (m : Int) (ps : Pt) : Pt := if 0 < ps.1 then (ps.1 / m, ps.2) else (ps.1, (ps.2 * 39373 + 12227) % 2147483629)
def drawOk (m : Int) (ps : Pt) : Bool := decide (0 < m) && decide (m < 1073741824) && decide (0 ≤ ps.2) && decide (ps.2 < 2147483648)
def drawF : List PyData → Pt → Option (PyData × Pt)
  | [d, .int m], ps => if isPot d && drawOk m ps then some (.int (drawV m ps), drawS m ps) else none
  | _, _ => none
theorem drawF_inv {ds : List PyData} {ps : Pt} {z : PyData × Pt} (h : drawF ds ps = some z) : ∃ m, ds = [potD, .int m] ∧ drawOk m ps = true ∧ z = (.int (drawV m ps), drawS m ps) := by
  match ds, h with
  | [d, .int m], h =>
    have h' : (if isPot d && drawOk m ps then some (PyData.int (drawV m ps), drawS m ps) else none) = some z := h
    split at h'
    · next hc =>
      rw [Bool.and_eq_true] at hc
      rw [isPot_eq hc.1]
      exact ⟨m, rfl, hc.2, (Option.some.inj h').symm⟩
    · cases h'
theorem rv_pot {K : PySem.W.Frag} {pp : Option Addr} {G : Hp} {v : V} (h : Rv K pp G v potD) : ∃ a, v = .ref a ∧ pp = some a := by
  unfold potD at h
  cases h with
  | pot e => exact ⟨_, rfl, e⟩
/-- the pot takes other numbers -/
theorem Go.pot {pp : Option Addr} {ps ps' : Pt} {G H : Hp} {a : Addr} (c : Cf pp ps G H) (ha : pp = some a) : Go pp ps' [] G H G (upd H a (.lst [.int ps'.1, .int ps'.2])) := by
  have hG : G a = none := (c.pot a ha).1
  refine ⟨Same.refl G, ⟨fun b o e => ?_, fun b hb => ?_, tab_upd (c.pot a ha).2 c.tb, c.vt, ot_upd nt_lst c.ot⟩, fun b o e n => absurd (n.symm.trans e) (by simp), fun b o e hb _ _ => ?_, fun b e => ?_⟩
  · rw [upd_ne (ne_of_none e hG)]
    exact c.ex b o e
  · rw [ha] at hb
    cases hb
    exact ⟨hG, upd_same⟩
  · have hne : b ≠ a := fun z => hb (z ▸ ha)
    rw [upd_ne hne]
    exact e
  · by_cases hb : b = a
    · subst hb
      rw [upd_same] at e
      cases e
    · rw [upd_ne hb] at e
      exact e
end DL

set_option Elab.async false
set_option linter.all false
set_option maxRecDepth 100000
/-! D-layer, part k: a new pot for the rest of a block. -/
namespace DL
open PySem L2
variable [TBL]
mutual
def potFree : PyData → Bool
  | .none => true
  | .bool _ => true
  | .int _ => true
  | .str _ => true
  | .list ds => potFreeL ds
  | .tuple ds => potFreeL ds
  | .dict _ => false
def potFreeL : List PyData → Bool
  | [] => true
  | d :: ds => potFree d && potFreeL ds
end
section
variable {K : PySem.W.Frag} {pp pp' : Option Addr} {G G' H H' : Hp} {S S' : Sd} {σ σ' : L2.St}
mutual
theorem Rv.swap : ∀ (d : PyData) (v : V), potFree d = true → Rv K pp G v d → Rv K pp' G v d
  | .none, _, _, h => by cases h; exact .non
  | .bool b, _, _, h => by cases h; exact .bl b
  | .int i, _, _, h => by cases h; exact .int i
  | .str x, _, _, h => by cases h; exact .str x
  | .list ds, _, f, h => by
    cases h with
    | lst hs ha => exact .lst hs (RvL.swap ds _ (by simpa only [potFree] using f) ha)
  | .tuple ds, _, f, h => by
    cases h with
    | tup hs ha => exact .tup hs (RvL.swap ds _ (by simpa only [potFree] using f) ha)
  | .dict kvs, _, f, h => by simp [potFree] at f
theorem RvL.swap : ∀ (ds : List PyData) (vs : List V), potFreeL ds = true → RvL K pp G vs ds → RvL K pp' G vs ds
  | [], _, _, h => by cases h; exact .nil
  | d :: ds, _, f, h => by
    have f' : potFree d = true ∧ potFreeL ds = true := by simpa only [potFreeL, Bool.and_eq_true] using f
    cases h with
    | cons a b => exact .cons (Rv.swap d _ f'.1 a) (RvL.swap ds _ f'.2 b)
end
def forget1 : SV → SV
  | .un => .un
  | .dat d => if potFree d then .dat d else .un
  | .own ds => if potFreeL ds then .own ds else .un
def forget (S : Sd) : Sd := S.map forget1
theorem forget_own {i : Nat} {ds : List PyData} (h : (forget S)[i]? = some (.own ds)) : S[i]? = some (.own ds) ∧ potFreeL ds = true := by
  unfold forget at h
  rw [List.getElem?_map] at h
  obtain ⟨sv, h1, h2⟩ := map_inv h
  cases sv with
  | un => cases h2
  | dat d =>
    by_cases hf : potFree d = true
    · rw [show forget1 (.dat d) = .dat d from if_pos hf] at h2
      cases h2
    · rw [show forget1 (.dat d) = .un from if_neg hf] at h2
      cases h2
  | own es =>
    by_cases hf : potFreeL es = true
    · rw [show forget1 (.own es) = .own es from if_pos hf] at h2
      cases h2
      exact ⟨h1, hf⟩
    · rw [show forget1 (.own es) = .un from if_neg hf] at h2
      cases h2
theorem forget_owned {b : Addr} (h : Owned (forget S) σ b) : Owned S σ b := by
  obtain ⟨i, ds, h1, h2⟩ := h
  exact ⟨i, ds, (forget_own h1).1, h2⟩
theorem Sl.forget (s : Sl K pp G H S σ) (hp : ∀ b, Owned S σ b → pp' ≠ some b) : Sl K pp' G H (forget S) σ := by
  refine ⟨by unfold DL.forget; rw [List.length_map]; exact s.len, fun i sv e => ?_, fun i j ds es p e1 e2 e3 e4 => s.apart i j ds es p (forget_own e1).1 (forget_own e2).1 e3 e4⟩
  unfold DL.forget at e
  rw [List.getElem?_map] at e
  obtain ⟨sv0, h1, rfl⟩ := map_inv e
  obtain ⟨o, h2, h3⟩ := s.each i sv0 h1
  refine ⟨o, h2, ?_⟩
  cases sv0 with
  | un => trivial
  | dat d =>
    by_cases hf : potFree d = true
    · rw [show forget1 (.dat d) = .dat d from if_pos hf]
      obtain ⟨v, rfl, r⟩ := h3
      exact ⟨v, rfl, Rv.swap _ _ hf r⟩
    · rw [show forget1 (.dat d) = .un from if_neg hf]
      trivial
  | own ds =>
    by_cases hf : potFreeL ds = true
    · rw [show forget1 (.own ds) = .own ds from if_pos hf]
      obtain ⟨p, vs, rfl, h4, h5, h6, h7⟩ := h3
      exact ⟨p, vs, rfl, h4, h5, hp p ⟨i, ds, h1, h2⟩, RvL.swap _ _ hf h7⟩
    · rw [show forget1 (.own ds) = .un from if_neg hf]
      trivial
end
def forgetO : OutS → Option OutS
  | .nx S => some (.nx (forget S))
  | .rt d => if potFree d then some (.rt d) else none
  | .bk S => some (.bk (forget S))
  | .ct S => some (.ct (forget S))
/-- a def's promise that it hands back a new list of such data -/
def spN (K : PySem.W.Frag) (n : Nat) (fn : List PyData → Pt → Option (List PyData × Pt)) : Sp := fun vs H Q _ => ∃ (pp : Option Addr) (ps : Pt) (G : Hp) (ds es : List PyData) (ps' : Pt), ds.length = n ∧ Cf pp ps G H ∧ RvL K pp G vs ds ∧ fn ds ps = some (es, ps') ∧
  ∀ p us G' H', Go pp ps' [] G H G' H' → H p = none → G' p = none → H' p = some (.lst us) → RvL K pp G' us es → Q (.ref p) H'
abbrev FnN (P : Program) (w : World) (K : PySem.W.Frag) (mg : Str → Option Value) (base : Heap) (k : Nat) (f : Addr) (fd : FuncData) (ps : List Str) (fn : List PyData → Pt → Option (List PyData × Pt)) : Prop := FnOk P w K mg base CX0 k f fd ps (spN K ps.length fn)
def sPot (i : Nat) (fp : List PyData → Pt → Option (List PyData × Pt)) (gs : AG) (rest : SG) : SG := fun S ps => bindP (gs S ps) fun ds p => match fp ds p with
  | some ([.int a, .int b], p') => match rest ((forget S).set i (.dat potD)) (a, b) with
    | some (r, _) => (forgetO r).map fun r' => (r', p')
    | none => none
  | _ => none
section
variable {X : Cx}
theorem Owned.ne {K : PySem.W.Frag} {pp : Option Addr} {G H : Hp} {S : Sd} {σ : L2.St} {b : Addr} (s : Sl K pp G H S σ) (h : Owned S σ b) : pp ≠ some b ∧ G b = none ∧ ∃ o, H b = some o := by
  obtain ⟨i, ds, h1, h2⟩ := h
  obtain ⟨p, vs, h3, h4, h5, h6, _⟩ := s.own h1
  rw [h2] at h3
  cases h3
  exact ⟨h6, h5, _, h4⟩
/-- back from a pot of one's own to what was before -/
theorem GoS.back {K : PySem.W.Frag} {pp : Option Addr} {ps q' : Pt} {S S1 S' : Sd} {σ σ1 σ' : L2.St} {G H G1 H1 G' H' : Hp} {p : Addr} (c : Cf pp ps G1 H1) (s1 : Sl K pp G1 H1 S σ) (hp : pp ≠ some p) (ho : ∀ b, Owned S1 σ1 b → Owned S σ b) (g : GoS (some p) q' S1 σ1 G1 H1 S' σ' G' H') (hH : H1 p ≠ none) (h0 : H p = none) (g0 : Go pp ps [] G H G1 H1) (hG : G' p = none) (sl : Sl K pp G H S σ) :
    GoS pp ps S σ G H S' σ' G' H' := by
  refine ⟨g0.gg.trans g.gg, ⟨g.cf.ex, fun a ha => ?_, g.cf.tb, g.cf.vt, g.cf.ot⟩, fun b o e n => ?_, fun b o e hb hn nt => ?_, fun b z => ?_, fun b z => g0.none_of (g.there b z)⟩
  · obtain ⟨a1, a2⟩ := c.pot a ha
    have hne : p ≠ a := fun z => hp (z ▸ ha)
    have no : ¬ Owned S σ a := fun z => (Owned.ne s1 z).1 ha
    refine ⟨?_, g.keep a _ a2 (fun z => hne (Option.some.inj z)) (fun z => no (ho a z)) nt_lst⟩
    cases e : G' a with
    | none => rfl
    | some o =>
      rcases g.fresh a o e a1 with z | z
      · rw [a2] at z
        cases z
      · exact absurd (ho a z) no
  · cases q : G1 b with
    | some u => exact .inl (g0.fresh b u q n)
    | none =>
      rcases g.fresh b o e q with z | z
      · exact .inl (g0.none_of z)
      · exact .inr (ho b z)
  · have hbp : b ≠ p := ne_of_none e h0
    exact g.keep b o (g0.keep b o e hb (by simp) nt) (fun z => hbp (Option.some.inj z).symm) (fun z => hn (ho b z)) nt
  · rcases g.own b z with y | y
    · exact .inl (g0.none_of y)
    · exact .inr (ho b y)
theorem pds_pot {k : Nat} {f : Addr} {fd : FuncData} {qs : List Str} {fp : List PyData → Pt → Option (List PyData × Pt)} {i : Nat} {x y : Str} {p pos pos' pos2 : Pos} {e : Expr} {es : List Expr} {gs : AG} {sts : List Stmt} {rest : SG} (hN : X.N.Nodup) (hi : X.N[i]? = some x) (hx : Loc X.env.scope x)
    (F : FnN X.prog X.w X.K X.mg X.base k f fd qs fp) (hr : Room k X.A) (hg : Gl X y) (hm : X.mg y = some (.ref f)) (hk : PySem.W.keepIn X.K (.ref f) = true) (hb : Binds X.K fd qs []) (ha : PDA X (e :: es) gs) (hl : ∀ S ps ds p, gs S ps = some (ds, p) → ds.length = qs.length) (hrest : PDSs X sts rest)
    (hf : X.fn x = true ∨ X.env.scope.names.lookup x = some .local := by first | exact .inl rfl | exact .inr rfl | assumption)
    (hdb : (y == ("__debug__" : Str)) = false := by decide) (he : starEach (e :: es) X.env = (false, eval e X.env) :: starEach es X.env := by rfl) (hpl : (backTo pos2 (starEach es X.env)).any (·.1) = false := by rfl)
    (hs : swapsWithSole [.Name x pos'] (.Call (.Name y p) (e :: es) [] pos2) pos.line X.env = pure false := by rfl) (hw : swappedStores [.Name x pos'] (.Call (.Name y p) (e :: es) [] pos2) X.env = pure none := by rfl) (h1 : (assignEach [.Name x pos'] X.env).map (·.2) = [assign (.Name x pos') X.env] := by rfl) :
    PDSs X (.Assign [.Name x pos'] (.Call (.Name y p) (e :: es) [] pos2) pos :: sts) (sPot i fp gs rest) :=
  pss_imp (pss_cons (ps_asg (pe_call (E := E0) F hr hg hm hk hb .nil pass0 ha hdb he hpl) (pg_name hN hi hx hf) hs hw h1) hrest) fun D σ H ⟨pp, ps, G, S, r, ps', c, s, e, kk⟩ => by
    obtain ⟨ds, p1, e1, e⟩ := bindP_inv e
    split at e
    · next a b p2 e2 =>
      split at e
      · next r0 q0 e3 =>
        obtain ⟨r1, e4, e⟩ := map_inv e
        cases e
        refine ⟨pp, ps, G, S, ds, p1, c, s, e1, fun vs G1 H1 g1 rv1 => ?_⟩
        show spN X.K qs.length fp (vs ++ []) H1 _ E0
        rw [List.append_nil]
        refine ⟨pp, p1, G1, ds, _, _, hl _ _ _ _ e1, g1.cf, rv1, e2, fun pa us G2 H2 g2 hp1 hg2 hp2 rvu => ?_⟩
        obtain ⟨va, vb, rfl, ra, rb⟩ := rvl_two rvu
        cases ra
        cases rb
        have g12 := g1.trans g2
        have hp0 : H pa = none := g1.none_of hp1
        have npp : pp ≠ some pa := c.pne hp0
        have s2 := s.go g12
        have npo : ∀ b, Owned S σ b → b ≠ pa := fun b z => by
          obtain ⟨_, _, o, ho⟩ := Owned.ne s z
          exact ne_of_none ho hp0
        have cf2 : Cf (some pa) (a, b) G2 H2 := ⟨g2.cf.ex, fun x hx => by
          cases hx
          exact ⟨hg2, hp2⟩, g2.cf.tb, g2.cf.vt, g2.cf.ot⟩
        have s3 : Sl X.K (some pa) G2 H2 ((forget S).set i (.dat potD)) (σ.set i (some (.ref pa))) := (s2.forget fun b z w => npo b z (Option.some.inj w).symm).set (.pot rfl)
        have ho3 : ∀ b, Owned ((forget S).set i (.dat potD)) (σ.set i (some (.ref pa))) b → Owned S σ b := fun b z => forget_owned (owned_set dat_ne z)
        refine ⟨some pa, (a, b), G2, _, r0, q0, cf2, s3, e3, ?_⟩
        have back : ∀ {S' : Sd} {σ' : L2.St} {G' H' : Hp}, GoS (some pa) q0 ((forget S).set i (.dat potD)) (σ.set i (some (.ref pa))) G2 H2 S' σ' G' H' → GoS pp ps' S σ G H S' σ' G' H' := fun {S' σ' G' H'} g => by
          refine GoS.back g2.cf s2 npp ho3 g (by rw [hp2]; simp) hp0 g12 ?_ s
          exact (g.cf.pot pa rfl).1
        cases r0 with
        | nx S' =>
          cases e4
          intro σ' G' H' g sl
          have gb := back g
          refine kk σ' G' H' ⟨gb.gg, gb.cf, gb.fresh, gb.keep, fun b z => gb.own b (forget_owned z), gb.there⟩ (sl.forget fun b z w => ?_)
          rcases gb.own b z with y | y
          · rw [(c.pot b w).2] at y
            cases y
          · exact (Owned.ne s y).1 w
        | rt d =>
          obtain ⟨hfree, e4⟩ := ite_inv e4
          cases e4
          intro v G' H' g rv
          exact kk v G' H' (back g) (Rv.swap _ _ hfree rv)
        | bk S' =>
          cases e4
          intro σ' G' H' g sl
          have gb := back g
          refine kk σ' G' H' ⟨gb.gg, gb.cf, gb.fresh, gb.keep, fun b z => gb.own b (forget_owned z), gb.there⟩ (sl.forget fun b z w => ?_)
          rcases gb.own b z with y | y
          · rw [(c.pot b w).2] at y
            cases y
          · exact (Owned.ne s y).1 w
        | ct S' =>
          cases e4
          intro σ' G' H' g sl
          have gb := back g
          refine kk σ' G' H' ⟨gb.gg, gb.cf, gb.fresh, gb.keep, fun b z => gb.own b (forget_owned z), gb.there⟩ (sl.forget fun b z w => ?_)
          rcases gb.own b z with y | y
          · rw [(c.pot b w).2] at y
            cases y
          · exact (Owned.ne s y).1 w
      · cases e
    · cases e
/-- x = e; return [a, b, ..]: a new list -/
def runN (n : Nat) (pre : SG) (gs : AG) (ds : List PyData) (ps : Pt) : Option (List PyData × Pt) := match pre (startD n ds) ps with
  | some (.nx S, p) => bindP (gs S p) fun es p' => if fitsL es then some (es, p') else none
  | _ => none
theorem fn_new {P : Program} {w : World} {K : PySem.W.Frag} {mg : Str → Option Value} {base : Heap} {x qual : Str} {st s1 : Stmt} {f : Addr} {fd : FuncData} {N ps : List Str} {k : Nat} {pre : SG} {gs : AG} {es : List Expr} {p1 p2 : Pos} (F : Fun K x qual st f fd) (S : FnScope N ps (defScope st)) (hn : ps.length ≤ N.length)
    (hb : defBody st = [s1, .Return (some (.List es p1)) p2])
    (h1 : ∀ (cdv : Value) (A : Around) (outer : List Env) (s : Shared) (H : Hp) (E : XK), Room k (A.deeper (PyProof.Rows.envOfC qual (defScope st) s.heap.objs.size f cdv)) → PDS (cxOf CX0 P w K mg base N qual (defScope st) f cdv A outer s H E).nox s1 pre)
    (h2 : ∀ (cdv : Value) (A : Around) (outer : List Env) (s : Shared) (H : Hp) (E : XK), Room k (A.deeper (PyProof.Rows.envOfC qual (defScope st) s.heap.objs.size f cdv)) → PDA (cxOf CX0 P w K mg base N qual (defScope st) f cdv A outer s H E).nox es gs) :
    FnN P w K mg base (k + 1) f fd ps (runN N.length pre gs) := by
  refine F.ok S (fun vs H Q E h => ?_) (fun cdv A outer s H vs Q E hr h => ?_)
  · obtain ⟨pp, p, G, ds, d, p', hl, c, r, e, q⟩ := h
    rw [r.length]
    exact hl
  · obtain ⟨pp, p, G, ds, d, p', hl, c, r, e, q⟩ := h
    rw [hb]
    refine ⟨_, pss_cons (h1 cdv A outer s H E hr) (pss_one (ps_ret (pe_lst (h2 cdv A outer s H E hr)))), ?_⟩
    have hvl : vs.length ≤ N.length := by
      rw [r.length, hl]
      exact hn
    unfold runN at e
    split at e
    · next S1 pm eg =>
      obtain ⟨es', pn, e2, e⟩ := bindP_inv e
      obtain ⟨hf, e⟩ := ite_inv e
      cases e
      refine ⟨pp, p, G, _, _, _, c, sl_start r hvl, eg, fun σ' G' H' g' s' => ⟨pp, pm, G', S1, d, _, g'.cf, s', e2, fun us G2 H2 g2 r2 => ⟨by rw [r2.length]; exact fits_size hf, fun pa hp => ?_⟩⟩⟩
      have g0 : Go pp pm [] G H G' H' := g'.toGo fun b => start_own
      have gh : Go pp p' [] G2 H2 G2 (upd H2 pa (.lst us)) := Go.hide g2.cf hp
      exact q pa us G2 _ ((g0.trans g2).trans gh) ((g0.trans g2).none_of hp) (g2.cf.ex.free hp) upd_same r2
    · cases e
end
end DL

set_option Elab.async false
set_option linter.all false
set_option maxRecDepth 100000
/-! D-layer, part l: sorted(e, key=lambda x: ..), the lambda without names of the def around it. -/
namespace DL
open PySem L2
variable [TBL]
def runE (n : Nat) (g : EG) (ds : List PyData) (ps : Pt) : Option (PyData × Pt) := g (startD n ds) ps
section
variable {X : Cx}
/-- tables that were not there before are forgotten -/
def untab (H1 H2 : Hp) : Hp := fun b => match H2 b with
  | some (.tbl ps) => if (H1 b).isSome then some (.tbl ps) else none
  | o => o
theorem untab_nt {H1 H2 : Hp} {b : Addr} {o : HO} (h : H2 b = some o) (nt : NT o) : untab H1 H2 b = some o := by
  unfold untab
  rw [h]
  cases o with
  | tbl ps => exact absurd rfl (nt ps)
  | _ => rfl
theorem untab_some {H1 H2 : Hp} {b : Addr} {o : HO} (h : untab H1 H2 b = some o) : H2 b = some o := by
  unfold untab at h
  split at h
  · next ps e =>
    split at h
    · cases h
      exact e
    · cases h
  · exact h
theorem untab_old {H1 H2 : Hp} {b : Addr} {ps : Array Value} (h : H2 b = some (.tbl ps)) (h1 : (H1 b).isSome = true) : untab H1 H2 b = some (.tbl ps) := by
  unfold untab
  rw [h]
  exact if_pos h1
theorem untab_none {H1 H2 : Hp} {b : Addr} (h : H2 b = none) : untab H1 H2 b = none := by
  unfold untab
  rw [h]
theorem _root_.L2.Inv.untab {pins : List (Addr × Obj)} {σ : L2.St} {H1 H2 : Hp} {s1 s2 : Shared} (I1 : Inv X pins σ H1 s1) (I : Inv X pins σ H2 s2) : Inv X pins σ (untab H1 H2) s2 := by
  refine ⟨I.ok, I.os, I.bare, ⟨I.base.keep, I.base.slot, fun b o e n hx => untab_none (I.base.free b o e n hx), I.base.there, fun b xs e => untab_nt (I.base.tups b xs e) nt_tup, fun b o u e => untab_nt (I.base.frzs b o u e) fun ps z => (by cases z), fun b ps e => ?_⟩, I.loc, I.cell, untab_none I.free, fun x c e => untab_none (I.freeC x c e), fun p hp => ?_, fun a o e => ?_, I.len⟩
  · obtain ⟨m1, h1⟩ := I1.base.tbls b ps e
    obtain ⟨m2, h2⟩ := I.base.tbls b ps e
    exact ⟨m2, untab_old h2 (by rw [h1]; rfl)⟩
  · obtain ⟨a, b, c⟩ := I.pin p hp
    exact ⟨a, untab_none b, c⟩
  · exact (I.hok a o (untab_some e)).stay (fun _ _ _ q => q) (fun b q => untab_nt q fun ps z => (by cases z)) fun b xs q => untab_nt q nt_tup
theorem cal_lam {k : Nat} {f c' : Addr} {a : Str} {N : List Str} {params : Arguments} {body : Expr} {scope : Scope} {pm ctv : Value} {qual : Str} {g : EG} (S : FnScope N [a] scope) (hr : Room (k + 2) X.A)
    (hbind : ∀ u, bindArgs (PySem.W.kla_fn "<lambda>" qual params body scope [] pm (.ref c') ctv) ⟨[u], []⟩ = pure [(a, u)])
    (hbody : ∀ (A : Around) (outer : List Env) (s : Shared) (H : Hp) (E : XK), Room k (A.deeper (PyProof.Rows.envOfC qual scope s.heap.objs.size f (.ref c'))) → PD (cxOf CX0 X.prog X.w X.K X.mg X.base N qual scope f (.ref c') A outer s H E).nox body g) :
    CalA X [(f, PySem.W.kla_obj "<lambda>" qual params body scope [] pm c' ctv)] [(c', qual)] (.ref f) (runE N.length g) := by
  intro pins s σ H pp q q' G v u d kd hpn hcs I c r rv e
  have hf : s.heap.get? f = some (PySem.W.kla_obj "<lambda>" qual params body scope [] pm c' ctv) := (I.pin _ (List.mem_append_right _ (hpn (f, _) List.mem_cons_self))).1
  have hc := hcs (c', qual) (by simp)
  have hr' : Room (k + 1) X.A.in1.in1 := ⟨hr.hd, by
    have := hr.dp
    show X.A.depth + 3 * (k + 1) + 5 < _
    omega, by
    have := hr.un
    show X.A.units + 1 + 1 + 16 * (k + 1) + 200 < _
    omega⟩
  obtain ⟨⟨oc, vs, t, hoc, hdc, hvc⟩, _, _⟩ := I.hok c' _ hc
  have e0 : Env0 X.prog X.w X.K X.mg X.base X.A.in1.in1 X.stack s H := Env0.in1 (Env0.in1 I.env0)
  have hpl : 1 ≤ N.length := by
    have := congrArg List.length S.pre
    rw [List.length_take] at this
    simp at this
    omega
  have hkind : ∀ y ∈ [a].zip [u], scope.names.lookup y.1 = some .local ∨ (scope.names.lookup y.1 = some .cell ∧ ((cellsFrom (s.heap.objs.size + 1) scope.names []).lookup y.1).isSome = true) := fun ⟨n, v⟩ hy => by
    rcases S.par n (List.of_mem_zip hy).1 with q | q
    · exact .inl q
    · exact .inr ⟨q, PySem.W.cellsFrom_some _ _ _ (.inl q)⟩
  have rc : codeAny (model X.prog X.w) X.A.in1.in1 (.call (.ref f) ⟨[u], []⟩) (CR CX0 X.stack X.prog X.w H s (fun z H' => ∃ G', Go pp q' [] G H G' H' ∧ Rv X.K pp G' z kd) E0) s := by
    refine PySem.W.kla_callFunE hr'.depth hf rfl S.co S.gen rfl ⟨c', oc, vs, t, rfl, hoc, hdc, hvc⟩ ?_
    rw [hbind u]
    refine wpAny_pure ?_
    refine wpAny_newFunctionEnv_cells S.kind hkind fun env he s1 x => ?_
    subst he
    refine ⟨I.nolimit.keeps x.toInCall.keep, ?_⟩
    have J := inv_start (CX := CX0) (E := E0) S hr'.hd e0 rfl (.cons rv .nil) x
    refine PySem.W.kla_codeExpr (wpAny_mono (((hbody X.A.in1.in1 X.stack s H E0 (hr'.deeper _)).nox).run [] _ _ H (fun z H' => ∃ G', Go pp q' [] G H G' H' ∧ Rv X.K pp G' z kd) J ?_) (fun v s' hq => ?_) fun e s' hq => hq)
    · exact ⟨pp, q, G, _, kd, q', c, sl_start (.cons r .nil) hpl, e, fun z G' H' g' r' => ⟨G', g', r'⟩⟩
    · obtain ⟨w', H', J', rv', q⟩ := hq
      exact ⟨w', H', J'.os, J'.bare, J'.base, J'.hok, rv', q⟩
  refine wpAny_call (codeAny_mono rc fun res s' hq => ?_)
  cases res with
  | error e => exact False.elim hq
  | ok fl =>
    cases fl with
    | ret u => exact I.after hq
    | next => exact False.elim hq
    | brk => exact False.elim hq
    | cont => exact False.elim hq
/-- sorted(e, key=lambda a: body): c, P: the running def's code object and its table -/
theorem pd_sortL {k : Nat} {c P : Addr} {a : Str} {N : List Str} {params : Arguments} {body e : Expr} {scope : Scope} {g ge : EG} {p pos lp kp : Pos} (hc : X.calm = true) (S : FnScope N [a] scope) (hr : Room (k + 2) X.A) (hg : Gl X "sorted") (hm : X.mg "sorted" = none)
    (TB : LamX.TabB X.base X.mg c P) (hcode : X.env.code = .ref c) (hmT : (P, X.env.qual ++ "<lambda>") ∈ TBL.T) (hu : ∀ q ∈ TBL.T, q.1 = P → q.2 = X.env.qual ++ "<lambda>") (hdef : defaultsOf params X.env = ([], [])) (hclo : cloFrom X.env.cells scope.names [] = []) (hnf : ∀ y ∈ scope.names, y.2 ≠ .free)
    (hbind : ∀ (q : Str) (pm cv ctv u : Value), bindArgs (PySem.W.kla_fn "<lambda>" q params body scope [] pm cv ctv) ⟨[u], []⟩ = pure [(a, u)]) (he : PD X e ge)
    (hbody : ∀ (f : Addr) (cv : Value) (A : Around) (outer : List Env) (s : Shared) (H : Hp) (E : XK), Room k (A.deeper (PyProof.Rows.envOfC (X.env.qual ++ "<lambda>") scope s.heap.objs.size f cv)) → PD (cxOf CX0 X.prog X.w X.K X.mg X.base N (X.env.qual ++ "<lambda>") scope f cv A outer s H E).nox body g)
    (hst : starEach [e] X.env = (false, eval e X.env) :: starEach [] X.env := by rfl) (he2 : backTo pos (starEach [e] X.env) = (false, eval e X.env) :: backTo pos (starEach [] X.env) := by rfl) (hpl : (backTo pos (starEach [e] X.env)).any (·.1) = false := by rfl) :
    PD X (.Call (.Name "sorted" p) [e] [⟨some (Str.ofString "key"), .Lambda params body scope lp, kp⟩] pos) (eSortK (runE N.length g) ge) := by
  have hu66 : X.A.units + 66 < cLine := by
    have := hr.un
    omega
  refine ⟨fun pins s σ H Q I ⟨pp, ps, G, S0, d, ps', c0, s0, e0, kk⟩ => ?_⟩
  obtain ⟨x, p1, e1, e0⟩ := bindP_inv e0
  split at e0
  · next ds =>
    split at e0
    · next hf =>
      obtain ⟨ks, p2, e2, e0⟩ := bindP_inv e0
      obtain ⟨hk, e0⟩ := ite_inv e0
      cases e0
      refine wpAny_Call_Name_kw (ld_blt I hg hm (by decide +kernel : bootBuiltins "sorted" = some (.builtin "sorted")) ?_ (by decide) (by decide))
      refine PyProof.Rows.callWith_kw (thn ((pa_cons he pa_nil hst).run pos pins s σ H (fun vs H1 => ∃ v G1, vs = [v] ∧ Go pp p1 [] G H G1 H1 ∧ Rv X.K pp G1 v (.list ds)) I ⟨pp, ps, G, S0, _, p1, c0, s0, e1, fun v G1 H1 g1 r1 => ⟨v, G1, rfl, g1, r1⟩⟩) fun us s1 ⟨vs, H1, I1, rvs, v, G1, ev, g1, r1⟩ => ?_) he2 hpl rfl rfl
      subst ev
      refine wpAny_evalAll_cons (wpAny_bind (LamX.lam_make2 I1 TB hcode hmT hu g1.cf.tb hdef (fun y hy z => absurd z (hnf y hy)) fun f c' pm ctv H2 s2 I2 hext htab hobj hfn hfr hco => ?_))
      refine wpAny_bind (wpAny_standAt (wpAny_pure (wpAny_evalAll_nil ?_)))
      rw [hclo] at hobj
      have nloc : f ≠ X.env.locals := fun z => by
        obtain ⟨m, ⟨o, es, ep, ho, hd, _⟩, _⟩ := I2.loc
        rw [← z, hobj] at ho
        cases ho
        cases hd
      have nfs : f ∉ X.fs := fun z => hfr (by
        rcases I2.ok.stk with e | ⟨e, hfm⟩
        · rw [e]
          exact z
        · rw [e]
          unfold frs
          rw [List.filterMap_cons, hfm]
          exact List.mem_cons_of_mem _ z)
      have I2' := I1.untab I2
      have I3 : Inv X ((f, _) :: pins) σ (untab H1 H2) s2 := I2'.pins_of fun q hq => by
        rcases List.mem_cons.mp hq with rfl | hq
        · exact ⟨hobj, untab_none hfn, nloc, nfs, fun v z => by cases z⟩
        · exact I2'.pin q (List.mem_append_right _ hq)
      have kp : ∀ b o, H1 b = some o → NT o → untab H1 H2 b = some o := fun b o e nt => untab_nt (hext b o e nt) nt
      have tbs : ∀ b ps, H1 b = some (.tbl ps) → ∃ ps', untab H1 H2 b = some (.tbl ps') := fun b ps e => by
        obtain ⟨q, hq⟩ := g1.cf.ot b ps e
        obtain ⟨ps', h1, _⟩ := htab _ hq
        exact ⟨ps', untab_old h1 (by rw [e]; rfl)⟩
      have htab' : LamX.Tabs TBL.T (untab H1 H2) := fun q hq => by
        obtain ⟨ps', h1, h2, h3⟩ := htab q hq
        obtain ⟨ps0, h0, _⟩ := g1.cf.tb q hq
        refine ⟨ps', untab_old h1 (by rw [h0]; rfl), h2, fun pos cv hcv => ?_⟩
        obtain ⟨c1, e1, e2⟩ := h3 pos cv hcv
        exact ⟨c1, e1, untab_nt e2 fun ps z => LamX.codeO_ne ps z⟩
      have g2 : Go pp p1 [] G1 H1 G1 (untab H1 H2) := by
        refine ⟨Same.refl G1, ⟨fun b o e => kp b o (g1.cf.ex b o e) fun ps z => g1.cf.vt b ps (z ▸ e), fun a ha => ⟨(g1.cf.pot a ha).1, kp a _ (g1.cf.pot a ha).2 nt_lst⟩, htab', g1.cf.vt, fun b ps e => ?_⟩, fun b o e n => absurd (n.symm.trans e) (by simp), fun b o e _ _ nt => kp b o e nt, fun b e => ?_⟩
        · have e2 := untab_some e
          cases q : H1 b with
          | none =>
            unfold untab at e
            rw [e2, q] at e
            cases e
          | some o =>
            by_cases ht : ∃ ps', o = .tbl ps'
            · obtain ⟨ps', rfl⟩ := ht
              exact g1.cf.ot b ps' q
            · have := hext b o q fun ps' z => ht ⟨ps', z⟩
              rw [e2] at this
              exact absurd ⟨ps, (Option.some.inj this).symm⟩ ht
        · cases q : H1 b with
          | none => rfl
          | some o =>
            by_cases ht : ∃ ps', o = .tbl ps'
            · obtain ⟨ps', rfl⟩ := ht
              obtain ⟨ps2, h2⟩ := tbs b ps' q
              rw [h2] at e
              cases e
            · rw [kp b o q fun ps' z => ht ⟨ps', z⟩] at e
              cases e
      obtain ⟨l, xs, rfl, hl, ra⟩ := rv_lst r1
      cases rvs with
      | cons rv0 rv1 =>
        cases rv1
        cases rv0
        have C := cal_lam (X := X) (k := k) (f := f) (c' := c') (a := a) (N := N) (params := params) (body := body) (scope := scope) (pm := pm) (ctv := ctv) (qual := X.env.qual ++ "<lambda>") (g := g) S hr (fun u => hbind _ _ _ _ u) fun A outer s H E hrr => hbody f (.ref c') A outer s H E hrr
        have fin := sort_key (Q := Q) (pins := (f, _) :: pins) (fun p hp => by
          rcases List.mem_cons.mp hp with rfl | hp
          · exact List.mem_cons_self
          · cases hp) (fun p hp => by
          rcases List.mem_cons.mp hp with rfl | hp
          · exact untab_nt hco fun ps z => LamX.codeO_ne ps z
          · cases hp) I3 hu66 C g2.cf hl ra hf e2 hk fun v G' H' g' r' => kk v G' H' ((g1.trans g2).trans g') r'
        exact thn fin fun u s3 ⟨v, H3, I4, r4, q4⟩ => ⟨v, H3, I4.pop, r4, q4⟩
    · cases e0
  · cases e0
end
end DL

set_option Elab.async false
set_option linter.all false
set_option maxRecDepth 100000
/-! D-layer, part m: y = [..], powers, small helpers for printed terms. -/
namespace DL
open PySem L2
variable [TBL]
section
variable {X : Cx}
theorem pds_setLc {i : Nat} {y : Str} {py : Pos} {elt tg iter : Expr} {ifs : List Expr} {scope : Scope} {own : List (Str × Nat)} {pos spos : Pos} {it : AG} {is : List Nat} {t : Tgt} {test : BG} {ge : EG} (hc : X.calm = true) (hN : X.N.Nodup) (hy : X.N[i]? = some y) (hyl : X.env.scope.names.lookup y = some .local)
    (hsw : swapsWith (.ListComp elt [⟨tg, iter, ifs, 0⟩] scope pos) (some (.Name y py)) spos.line X.env = pure true) (hi : PDI X tg iter it) (ok : BlkOk X.N X.env.scope scope own)
    (hg : ∀ (s : Shared) (H : Hp) (C : Addr) (cl : List (Str × Addr)) (fp : List Addr), PDG (X.blk s H scope (compEnvC scope cl C X.env) fp) tg is t)
    (ht : ∀ (s : Shared) (H : Hp) (C : Addr) (cl : List (Str × Addr)) (fp : List Addr), PDTs (X.blk s H scope (compEnvC scope cl C X.env) fp) ifs test)
    (he : ∀ (s : Shared) (H : Hp) (C : Addr) (cl : List (Str × Addr)) (fp : List Addr), PD (X.blk s H scope (compEnvC scope cl C X.env) fp) elt ge)
    (hv : ∀ i ∈ is, i ∈ own.map (·.2)) (hs : ∀ x, foldedSetIterable iter X.env x = pure x := by intro _; rfl) : PDS X (.Assign [.Name y py] (.ListComp elt [⟨tg, iter, ifs, 0⟩] scope pos) spos) (sSet i (eLc it t test ge (own.map (·.2)))) :=
  ps_imp (ps_setLc hc hN hy hyl hsw hi ok hg ht he hs) fun D σ H ⟨pp, ps, G, S, r, ps', c, s, e, k⟩ => by
    obtain ⟨d, p1, e1, e⟩ := bindP_inv e
    cases e
    refine lc_data hv X.K σ H _ ⟨pp, ps, G, S, d, _, c, s, e1, fun v G' H' g' r' => ?_⟩
    exact k _ G' H' (g'.toS fun b z => owned_set dat_ne z) ((s.go g').set r')
def powI : PyData → PyData → Option PyData := onI2 (fun i j => decide (0 ≤ j) && decide (j ≤ 1000000) && decide (i.natAbs < 2 ^ 64)) fun i j => .int (i ^ j.toNat)
theorem opd_pow : OpD X (binaryOp .Pow) powI := opd_int op_pow fun _ _ h => by
  rw [Bool.and_eq_true, Bool.and_eq_true] at h
  exact ⟨of_decide_eq_true h.1.1, of_decide_eq_true h.1.2, of_decide_eq_true h.2⟩
end
theorem aNil_l : ∀ (S : Sd) (ps : Pt) (ds : List PyData) (p : Pt), aNil S ps = some (ds, p) → ds.length = 0 := fun _ _ _ _ h => by
  cases h
  rfl
theorem aCons_l {n : Nat} {g : EG} {gs : AG} (h : ∀ (S : Sd) (ps : Pt) (ds : List PyData) (p : Pt), gs S ps = some (ds, p) → ds.length = n) : ∀ (S : Sd) (ps : Pt) (ds : List PyData) (p : Pt), aCons g gs S ps = some (ds, p) → ds.length = n + 1 := fun S ps ds p e => by
  obtain ⟨d, p1, e1, e⟩ := bindP_inv e
  obtain ⟨ds', p2, e2, e⟩ := bindP_inv e
  cases e
  rw [List.length_cons, h _ _ _ _ e2]
theorem hu_n {A : Around} {k : Nat} (hr : Room k A) (n : Nat) (hn : n ≤ 199) : A.units + n < cLine := by
  have := hr.un
  omega
end DL

set_option Elab.async false
set_option linter.all false
set_option maxRecDepth 100000
/-! D-layer, part n: a def whose code object is known (it makes lambdas). -/
namespace DL
open PySem L2
structure FunC (K : PySem.W.Frag) (x qual : Str) (st : Stmt) (f : Addr) (fd : FuncData) (c : Addr) : Prop where
  ex : ∃ (oc : Value) (od : Option Addr) (kV doc pm : Value) (an : Option Addr) (ct : Value) (osl : Array (Option Value)),
    fd = PySem.W.fnOf x qual (defArgs st) (defBody st) (defScope st) .none kV doc pm an (.ref c) ct ∧ K.lookup f = some ⟨oc, od, .func fd, osl⟩ ∧ PySem.W.codeIn K (.ref c) qual = true
section
variable [TBL]
theorem fn_of_bodyC {P : Program} {w : World} {K : PySem.W.Frag} {mg : Str → Option Value} {base : Heap} {x qual : Str} {st : Stmt} {f c : Addr} {fd : FuncData} {N ps : List Str} {k : Nat} {g : SG} (F : FunC K x qual st f fd c) (S : FnScope N ps (defScope st)) (hn : ps.length ≤ N.length)
    (hbody : ∀ (A : Around) (outer : List Env) (s : Shared) (H : Hp) (E : XK), Room k (A.deeper (PyProof.Rows.envOfC qual (defScope st) s.heap.objs.size f (.ref c))) → PDSs (cxOf CX0 P w K mg base N qual (defScope st) f (.ref c) A outer s H E).nox (defBody st) g) :
    FnD P w K mg base (k + 1) f fd ps (runF N.length g) := by
  obtain ⟨oc, od, kV, doc, pm, an, ct, osl, rfl, lk, hcd⟩ := F.ex
  refine fn_of lk hcd S (fun vs H Q E h => ?_) (fun A outer s H vs Q E hr h => ?_)
  · obtain ⟨pp, p, G, ds, d, p', hl, c, r, e, q⟩ := h
    rw [r.length]
    exact hl
  · obtain ⟨pp, p, G, ds, d, p', hl, c, r, e, q⟩ := h
    refine ⟨_, (hbody A outer s H E hr).nox, ?_⟩
    have hvl : vs.length ≤ N.length := by
      rw [r.length, hl]
      exact hn
    unfold runF at e
    split at e
    · next d' p1 eg =>
      cases e
      exact ⟨pp, p, G, _, _, _, c, sl_start r hvl, eg, fun v G' H' g' r' => q v G' H' (g'.toGo fun b => start_own) r'⟩
    · next S' p1 eg =>
      cases e
      exact ⟨pp, p, G, _, _, _, c, sl_start r hvl, eg, fun σ' G' H' g' s' => q _ G' H' (g'.toGo fun b => start_own) .non⟩
    · cases e
end
theorem FunC.fn {K : PySem.W.Frag} {x qual : Str} {st : Stmt} {f c : Addr} {fd : FuncData} (F : FunC K x qual st f fd c) (kp : PySem.W.keepIn K (.ref f) = true) : Fun K x qual st f fd := by
  obtain ⟨oc, od, kV, doc, pm, an, ct, osl, e, lk, hcd⟩ := F.ex
  exact ⟨⟨oc, od, kV, doc, pm, an, .ref c, ct, osl, e, lk, hcd⟩, kp⟩
end DL

set_option Elab.async false
set_option linter.all false
set_option maxRecDepth 100000
/-! D-layer, part o: the law's end. -/
namespace DL
open PySem L2
variable [TBL]
def inT (b : Addr) : Bool := TBL.T.any fun p => p.1 == b
/-- tables of others are not looked at -/
def cutT (H : Hp) : Hp := fun b => match H b with
  | some (.tbl ps) => if inT b then some (.tbl ps) else none
  | o => o
theorem cutT_nt {H : Hp} {b : Addr} {o : HO} (h : H b = some o) (nt : NT o) : cutT H b = some o := by
  unfold cutT
  rw [h]
  cases o with
  | tbl ps => exact absurd rfl (nt ps)
  | _ => rfl
theorem cutT_some {H : Hp} {b : Addr} {o : HO} (h : cutT H b = some o) : H b = some o := by
  unfold cutT at h
  split at h
  · next ps e =>
    split at h
    · cases h
      exact e
    · cases h
  · exact h
theorem cutT_none {H : Hp} {b : Addr} (h : H b = none) : cutT H b = none := by
  unfold cutT
  rw [h]
theorem cutT_tab {H : Hp} {b : Addr} {ps : Array Value} (h : H b = some (.tbl ps)) (ht : inT b = true) : cutT H b = some (.tbl ps) := by
  unfold cutT
  rw [h]
  exact if_pos ht
theorem cutT_cases {H : Hp} (b : Addr) : cutT H b = H b ∨ (cutT H b = none ∧ ∃ ps, H b = some (.tbl ps)) := by
  cases q : H b with
  | none => exact .inl (cutT_none q)
  | some o =>
    by_cases ht : ∃ ps, o = .tbl ps
    · obtain ⟨ps, rfl⟩ := ht
      by_cases hb : inT b = true
      · exact .inl (cutT_tab q hb)
      · refine .inr ⟨?_, ps, rfl⟩
        unfold cutT
        rw [q]
        exact if_neg hb
    · exact .inl (cutT_nt q fun ps z => ht ⟨ps, z⟩)
theorem ot_cut {H : Hp} : OT (cutT H) := fun b ps e => by
  unfold cutT at e
  split at e
  · split at e
    · next hb =>
      unfold inT at hb
      obtain ⟨p, hp, h1⟩ := List.any_eq_true.mp hb
      have : p.1 = b := beq_iff_eq.mp h1
      subst this
      exact ⟨p.2, hp⟩
    · cases e
  · next hne => exact absurd e (hne ps)
/-- what was left out is put back as it was -/
def mend (H H' : Hp) : Hp := fun b => match cutT H b, H b with
  | none, some o => some o
  | _, _ => H' b
theorem mend_at {H H' : Hp} {b : Addr} {ps : Array Value} (h1 : cutT H b = none) (h2 : H b = some (.tbl ps)) : mend H H' b = some (.tbl ps) := by
  unfold mend
  rw [h1, h2]
theorem mend_else {H H' : Hp} {b : Addr} (h : cutT H b = H b) : mend H H' b = H' b := by
  unfold mend
  rw [h]
  cases H b <;> rfl
def spV (K : PySem.W.Frag) (n : Nat) (fn : List PyData → Pt → Option (PyData × Pt)) : Sp := fun vs H Q E => ∃ Qv : V → Prop, (∀ v H', Qv v → Q v H') ∧ spD K n fn vs (cutT H) (fun v _ => Qv v) E
theorem fn_cut {P : Program} {w : World} {K : PySem.W.Frag} {mg : Str → Option Value} {base : Heap} {k : Nat} {f : Addr} {fd : FuncData} {ps : List Str} {fn : List PyData → Pt → Option (PyData × Pt)} (F : FnD P w K mg base k f fd ps fn) : FnOk P w K mg base CX0 k f fd ps (spV K ps.length fn) := by
  refine ⟨fun vs H Q E ⟨Qv, _, h⟩ => F.len vs _ _ _ h, fun A outer s H args us vs Q E hr e0 hb r ⟨Qv, hq, h⟩ => ?_⟩
  have hok0 : HOk P w (cutT H) s.heap := fun a o e => (e0.hok a o (cutT_some e)).stay (fun _ _ _ q => q) (fun b q => cutT_nt q fun ps z => (by cases z)) fun b xs q => cutT_nt q nt_tup
  have e1 : Env0 P w K mg base A outer s (cutT H) := ⟨e0.frames, e0.mod, fun b o e => ⟨(e0.bs b o e).1, cutT_none (e0.bs b o e).2⟩, e0.bsz, e0.funs, fun b hb => cutT_none (e0.frf b hb), hok0, e0.bare⟩
  refine codeAny_mono (F.run A outer s (cutT H) args us vs _ E hr e1 hb r h) fun res s' hres => ?_
  cases res with
  | error e => exact hres
  | ok fl =>
    cases fl with
    | next => exact hres
    | brk => exact hres
    | cont => exact hres
    | ret u =>
      obtain ⟨v, H', os, bare, un, hok', rv, q⟩ := hres
      have foreign : ∀ b ps, cutT H b = none → H b = some (.tbl ps) → s'.heap.get? b = some { cls := .none, data := .fields ps } ∧ H' b = none := fun b ps h1 h2 => by
        have ho : s.heap.get? b = some { cls := .none, data := .fields ps } := e0.hok b _ h2
        have nb : b ∉ frs outer := fun z => by
          rw [e0.frf b z] at h2
          cases h2
        exact ⟨un.keep b _ ho h1 nb (by simp), un.free b _ ho h1 (by simp)⟩
      have none_of : ∀ b, H b = none → mend H H' b = H' b := fun b e => mend_else ((cutT_none e).trans e.symm)
      have nt_of : ∀ b o, H b = some o → NT o → mend H H' b = H' b := fun b o e nt => mend_else ((cutT_nt e nt).trans e.symm)
      refine ⟨v, mend H H', os, bare, ⟨fun b o e n hb hx => un.keep b o e (cutT_none n) hb hx, fun b o e n hb hx => un.slot b o e (cutT_none n) hb hx, fun b o e n hx => by rw [none_of b n]; exact un.free b o e (cutT_none n) hx, un.there,
        fun b xs e => by rw [nt_of b _ e nt_tup]; exact un.tups b xs (cutT_nt e nt_tup), fun b o u e => by rw [nt_of b _ e fun ps z => (by cases z)]; exact un.frzs b o u (cutT_nt e fun ps z => (by cases z)), fun b ps e => ?_⟩, fun a o e => ?_, rv, hq _ _ q⟩
      · rcases cutT_cases (H := H) b with h1 | ⟨h1, ps', h2⟩
        · rw [mend_else h1]
          exact un.tbls b ps (h1.trans e)
        · exact ⟨#[], by rw [mend_at h1 e]; simp⟩
      · have up : ∀ b u, H' b = some u → mend H H' b = some u := fun b u hb => by
          rcases cutT_cases (H := H) b with h1 | ⟨h1, ps', h2⟩
          · rw [mend_else h1]
            exact hb
          · rw [(foreign b ps' h1 h2).2] at hb
            cases hb
        rcases cutT_cases (H := H) a with h1 | ⟨h1, ps', h2⟩
        · rw [mend_else h1] at e
          exact (hok' a o e).stay (fun _ _ _ q => q) (fun b q => up b _ q) fun b xs q => up b _ q
        · rw [mend_at h1 h2] at e
          cases e
          exact (foreign a ps' h1 h2).1
/-- the law's end: its def gives True of every script -/
theorem law_at {l : PySem.W.OpenLaw} {w : World} {K : PySem.W.Frag} {k n : Nat} {x : Str} {mg : Str → Option Value} {fa : Addr} {h : Heap} {fd : FuncData} {cs : List (Addr × Addr)} {fn : List PyData → Pt → Option (PyData × Pt)}
    (hT : ∀ p ∈ cs, h.get? p.2 = some { cls := .none, data := .fields #[] }) (nT : ∀ p ∈ cs, K.lookup p.2 = none) (C : ∀ p ∈ cs, PySem.W.CodeHd h p.1 p.2) (hb : ∀ (s : Shared) (u : Value), BindsTo s fd ⟨[u], []⟩ [(x, u)]) (hTB : ∀ q ∈ TBL.T, ∃ c, (c, q.1) ∈ cs) (noL : ∀ a o, K.lookup a = some o → o.cls ≠ .type "list")
    (F : ∀ base : Heap, K.In base → base.Ns mainGlobals mg → (∀ p ∈ cs, LamX.TabB base mg p.1 p.2) → FnD l.prog w K mg base k fa fd [x] fn)
    (hlaw : ∀ ns : List Int, ns.length ≤ n → (∀ z ∈ ns, Builtin.Int.intBits z ≤ 1048576) → ∃ ps, fn [.list (ns.map .int)] (0, 0) = some (.bool true, ps)) : LamX.LawAtS l w K CX0 k n x mg fa h := by
  refine ⟨fd, cs, spV K 1 fn, hT, nT, C, hb, fun H a ns hl hbits hH hS => ?_, fun base KX G TB => fn_cut (F base KX G TB)⟩
  obtain ⟨ps, hps⟩ := hlaw ns hl hbits
  have hR : Rd H a (.lst (ns.map V.int)) := by
    rcases hS with h1 | ⟨o, its, nn, h1, h2, _⟩
    · exact h1
    · exact absurd h2 (noL a o h1)
  have ntA : ∀ o, H a = some o → NT o := fun o e ps z => by
    subst z
    rcases hR with h1 | ⟨ob, h1⟩ <;> rw [e] at h1 <;> cases h1
  let G : Hp := fun b => if b = a then H a else none
  have hG : Rd G a (.lst (ns.map V.int)) := by
    have e : G a = H a := if_pos rfl
    rcases hR with h1 | ⟨ob, h1⟩
    · exact .inl (e.trans h1)
    · exact .inr ⟨ob, e.trans h1⟩
  have rvl : ∀ ms : List Int, RvL K none G (ms.map V.int) (ms.map PyData.int) := fun ms => by
    induction ms with
    | nil => exact .nil
    | cons m r ih => exact .cons (.int m) ih
  have cf : Cf none (0, 0) G (cutT H) := by
    refine ⟨fun b o e => ?_, fun b z => (nomatch z), fun q hq => ?_, fun b ps e => ?_, ot_cut⟩
    · have e' : (if b = a then H a else none) = some o := e
      split at e'
      · next hb =>
        subst hb
        exact cutT_nt e' (ntA o e')
      · cases e'
    · obtain ⟨c, hc⟩ := hTB q hq
      exact LamX.TabS.nil (cutT_tab (hH _ hc) (List.any_eq_true.mpr ⟨q, hq, beq_self_eq_true _⟩))
    · have e' : (if b = a then H a else none) = some (.tbl ps) := e
      split at e'
      · exact ntA _ e' ps rfl
      · cases e'
  exact ⟨fun v => v = .bl true, fun v H' h => h, none, (0, 0), G, [.list (ns.map .int)], .bool true, ps, rfl, cf, .cons (.lst hG (rvl ns)) .nil, hps, fun v G' H' g' r' => rv_bl r'⟩
end DL

set_option Elab.async false
set_option linter.all false
set_option maxRecDepth 100000
namespace K37
open PySem L2 DL
def topS (i : Nat) : Stmt := PySem.Challenge.pw_nestdeep_k37_least_sets.main.body.getD i (.Pass ⟨0, 0, 0, 0⟩)
abbrev s_callback_key : Stmt := topS 1
abbrev s_callbacks_key : Stmt := topS 2
abbrev s_set_key : Stmt := topS 3
abbrev s_is_within : Stmt := topS 4
abbrev s_least_sets : Stmt := topS 5
abbrev s__law_pot : Stmt := topS 7
abbrev s__law_draw : Stmt := topS 8
abbrev s__law_pick : Stmt := topS 9
abbrev s__law_place : Stmt := topS 10
abbrev s__law_within : Stmt := topS 11
abbrev s__law_least : Stmt := topS 12
abbrev s_law : Stmt := topS 13
/-- what the top leaves: each def, the built-ins that are not hidden -/
structure TX (K : PySem.W.Frag) (mg : Str → Option Value) where
  a_callback_key : Addr
  fd_callback_key : FuncData
  F_callback_key : Fun K "callback_key" "callback_key" s_callback_key a_callback_key fd_callback_key
  b_callback_key : Binds K fd_callback_key [Str.ofString "callback"] []
  g_callback_key : mg (Str.ofString "callback_key") = some (.ref a_callback_key)
  a_callbacks_key : Addr
  fd_callbacks_key : FuncData
  F_callbacks_key : Fun K "callbacks_key" "callbacks_key" s_callbacks_key a_callbacks_key fd_callbacks_key
  b_callbacks_key : Binds K fd_callbacks_key [Str.ofString "callbacks"] []
  g_callbacks_key : mg (Str.ofString "callbacks_key") = some (.ref a_callbacks_key)
  a_set_key : Addr
  fd_set_key : FuncData
  F_set_key : Fun K "set_key" "set_key" s_set_key a_set_key fd_set_key
  b_set_key : Binds K fd_set_key [Str.ofString "callbacks"] []
  g_set_key : mg (Str.ofString "set_key") = some (.ref a_set_key)
  a_is_within : Addr
  fd_is_within : FuncData
  F_is_within : Fun K "is_within" "is_within" s_is_within a_is_within fd_is_within
  b_is_within : Binds K fd_is_within [Str.ofString "one", Str.ofString "other"] []
  g_is_within : mg (Str.ofString "is_within") = some (.ref a_is_within)
  a_least_sets : Addr
  fd_least_sets : FuncData
  F_least_sets : Fun K "least_sets" "least_sets" s_least_sets a_least_sets fd_least_sets
  b_least_sets : Binds K fd_least_sets [Str.ofString "sets"] []
  g_least_sets : mg (Str.ofString "least_sets") = some (.ref a_least_sets)
  a__law_pot : Addr
  fd__law_pot : FuncData
  F__law_pot : Fun K "_law_pot" "_law_pot" s__law_pot a__law_pot fd__law_pot
  b__law_pot : Binds K fd__law_pot [Str.ofString "_law_script", Str.ofString "_law_index"] []
  g__law_pot : mg (Str.ofString "_law_pot") = some (.ref a__law_pot)
  a__law_draw : Addr
  fd__law_draw : FuncData
  F__law_draw : Fun K "_law_draw" "_law_draw" s__law_draw a__law_draw fd__law_draw
  b__law_draw : Binds K fd__law_draw [Str.ofString "_law_pot_here", Str.ofString "_law_many"] []
  g__law_draw : mg (Str.ofString "_law_draw") = some (.ref a__law_draw)
  a__law_pick : Addr
  fd__law_pick : FuncData
  F__law_pick : Fun K "_law_pick" "_law_pick" s__law_pick a__law_pick fd__law_pick
  b__law_pick : Binds K fd__law_pick [Str.ofString "_law_pot_here", Str.ofString "_law_some"] []
  g__law_pick : mg (Str.ofString "_law_pick") = some (.ref a__law_pick)
  a__law_place : Addr
  fd__law_place : FuncData
  F__law_place : Fun K "_law_place" "_law_place" s__law_place a__law_place fd__law_place
  b__law_place : Binds K fd__law_place [Str.ofString "_law_back"] []
  g__law_place : mg (Str.ofString "_law_place") = some (.ref a__law_place)
  a__law_within : Addr
  fd__law_within : FuncData
  F__law_within : Fun K "_law_within" "_law_within" s__law_within a__law_within fd__law_within
  b__law_within : Binds K fd__law_within [Str.ofString "_law_one", Str.ofString "_law_other"] []
  g__law_within : mg (Str.ofString "_law_within") = some (.ref a__law_within)
  a__law_least : Addr
  fd__law_least : FuncData
  F__law_least : Fun K "_law_least" "_law_least" s__law_least a__law_least fd__law_least
  b__law_least : Binds K fd__law_least [Str.ofString "_law_some"] []
  g__law_least : mg (Str.ofString "_law_least") = some (.ref a__law_least)
  c__law_least : Addr
  t__law_least : Addr
  C__law_least : FunC K "_law_least" "_law_least" s__law_least a__law_least fd__law_least c__law_least
  a_law : Addr
  fd_law : FuncData
  F_law : Fun K "law" "law" s_law a_law fd_law
  b_law : Binds K fd_law [Str.ofString "_law_script"] []
  g_law : mg (Str.ofString "law") = some (.ref a_law)
  m_abs : mg (Str.ofString "abs") = none
  m_all : mg (Str.ofString "all") = none
  m_any : mg (Str.ofString "any") = none
  m_divmod : mg (Str.ofString "divmod") = none
  m_int : mg (Str.ofString "int") = none
  m_isinstance : mg (Str.ofString "isinstance") = none
  m_len : mg (Str.ofString "len") = none
  m_list : mg (Str.ofString "list") = none
  m_max : mg (Str.ofString "max") = none
  m_min : mg (Str.ofString "min") = none
  m_range : mg (Str.ofString "range") = none
  m_sorted : mg (Str.ofString "sorted") = none
  m_str : mg (Str.ofString "str") = none
  m_tuple : mg (Str.ofString "tuple") = none
section
variable [TBL] {P : Program} {w : World} {K : PySem.W.Frag} {mg : Str → Option Value} {base : Heap}
def lamQ (x : Str) (st : Stmt) : Str := (PyProof.Rows.envOfC x (defScope st) 0 0 .none).qual ++ "<lambda>"
/-- the tables of the defs that make lambdas -/
structure TBI (T : TX K mg) (base : Heap) : Prop where
  ok : True
  tb__law_least : LamX.TabB base mg T.c__law_least T.t__law_least
  mt__law_least : (T.t__law_least, lamQ "_law_least" s__law_least) ∈ TBL.T
  u__law_least : ∀ q ∈ TBL.T, q.1 = T.t__law_least → q.2 = lamQ "_law_least" s__law_least
theorem sc__law_pot : FnScope [Str.ofString "_law_script", Str.ofString "_law_index", Str.ofString "_law_cell"] [Str.ofString "_law_script", Str.ofString "_law_index"] (defScope s__law_pot) := ⟨rfl, rfl, rfl, by decide +kernel, rfl, by decide +kernel, by decide +kernel⟩
def f__law_pot : List PyData → Pt → Option (List PyData × Pt) := runN 3 (sSet 2 (eIf (asB (eOp ltI (eVar 1) (eCB (one lenD) (aCons (eVar 0) aNil)))) (eCB (one absD) (aCons (eOp ixD (eVar 0) (eVar 1)) aNil)) (eOp addD (eOp mulI (eC (.int 7)) (eVar 1)) (eC (.int 3))))) (aCons (eCB max2 (aCons (eC (.int 0)) (aCons (eOp subI (eVar 2) (eOp powI (eC (.int 10)) (eC (.int 18)))) aNil))) (aCons (eOp modI (eCB (one intD) (aCons (eOp addD (eOp addD (eOp mulI (eOp modI (eCB (one intD) (aCons (eVar 2) aNil)) (eC (.int 2147483629))) (eC (.int 48271))) (eOp mulI (eC (.int 60029)) (eVar 1))) (eC (.int 31))) aNil)) (eC (.int 2147483647))) aNil))
theorem w__law_pot (T : TX K mg) (TI : TBI T base) : FnN P w K mg base 1 T.a__law_pot T.fd__law_pot [Str.ofString "_law_script", Str.ofString "_law_index"] f__law_pot :=
  fn_new T.F__law_pot sc__law_pot (by decide) rfl (fun cdv A outer s H E hr => (pds_set (i := 2) sc__law_pot.nd rfl (by first | exact Or.inl rfl | exact Or.inr rfl) (pd_if (pdt_cmp opd_ltI (pd_var 1) (pd_callB cd_len (by rfl) T.m_len (by decide +kernel) (pda_cons (pd_var 0) pda_nil)) (nomark _)) (pd_callB cd_abs (by rfl) T.m_abs (by decide +kernel) (pda_cons (pd_ix ixd (fun _ _ => rfl) (pd_var 0) (pd_var 1)) pda_nil)) (pd_op opd_add (pd_op opd_mul pd_int (pd_var 1)) pd_int)))) (fun cdv A outer s H E hr => (pda_cons (pd_callB (cd_max2 rfl) (by rfl) T.m_max (by decide +kernel) (pda_cons pd_int (pda_cons (pd_op opd_sub (pd_var 2) (pd_op opd_pow pd_int pd_int)) pda_nil))) (pda_cons (pd_op opd_mod (pd_callTy cd_int (by rfl) T.m_int (by decide +kernel) (pda_cons (pd_op opd_add (pd_op opd_add (pd_op opd_mul (pd_op opd_mod (pd_callTy cd_int (by rfl) T.m_int (by decide +kernel) (pda_cons (pd_var 2) pda_nil)) pd_int) pd_int) (pd_op opd_mul pd_int (pd_var 1))) pd_int) pda_nil)) pd_int) pda_nil)))
abbrev f__law_draw : List PyData → Pt → Option (PyData × Pt) := drawF
theorem sc__law_draw : FnScope ["_law_pot_here", "_law_many", "_law_digit"] ["_law_pot_here", "_law_many"] (defScope s__law_draw) := ⟨rfl, rfl, rfl, by decide +kernel, rfl, by decide +kernel, by decide +kernel⟩
theorem w__law_draw (T : TX K mg) (TI : TBI T base) : FnD P w K mg base 1 T.a__law_draw T.fd__law_draw [Str.ofString "_law_pot_here", Str.ofString "_law_many"] f__law_draw := by
  have md := T.m_divmod
  have mi := T.m_int
  refine T.F__law_draw.ok sc__law_draw (fun vs H Q E h => ?_) (fun cdv A outer s H vs Q E hr h => ?_)
  · obtain ⟨pp, p, G, ds, d, p', hl, c, r, e, q⟩ := h
    rw [r.length]
    exact hl
  · obtain ⟨pp, p, G, ds, d, p', hl, c, r, e, q⟩ := h
    obtain ⟨m, rfl, ok, ez⟩ := drawF_inv e
    cases ez
    obtain ⟨v, w1, rfl, r1, r2⟩ := rvl_two r
    obtain ⟨a, rfl, ha⟩ := rv_pot r1
    cases r2
    unfold drawOk at ok
    rw [Bool.and_eq_true, Bool.and_eq_true, Bool.and_eq_true] at ok
    have m0 : 0 < m := of_decide_eq_true ok.1.1.1
    have m1 : m < 1073741824 := of_decide_eq_true ok.1.1.2
    have b0 : 0 ≤ p.2 := of_decide_eq_true ok.1.2
    have b1 : p.2 < 2147483648 := of_decide_eq_true ok.2
    obtain ⟨hG, hH⟩ := c.pot a ha
    refine ⟨_, pss_cons (ps_if (pt_cmpR op_gt (pe_ix ix_list (pv 0) pe_int (fun _ _ => rfl)) pe_int (nomark _))
        (pss_cons (ps_asg (pe_callB call_divmod (by rfl) md (by decide +kernel) (pa_cons (pe_ix ix_list (pv 0) pe_int (fun _ _ => rfl)) (pa_cons (pv 1) pa_nil)))
            (pg_tup rfl (pgs_cons (pg_sub (pv 0) pe_int set_list) (pgs_cons (pg_name (i := 2) sc__law_draw.nd rfl (.inl rfl)) pgs_nil))))
          (pss_one (ps_ret (pv 2)))) pss_nil)
      (pss_cons (ps_asg (pe_op op_mod (pe_callTy call_int1 (by rfl) mi (by decide +kernel) (pa_cons (pe_op op_add (pe_op op_mulW (pe_ix ix_list (pv 0) pe_int (fun _ _ => rfl)) pe_int) pe_int) pa_nil)) pe_int) (pg_sub (pv 0) pe_int set_list))
      (pss_one (ps_ret (pe_op op_mod (pe_callTy call_int1 (by rfl) mi (by decide +kernel) (pa_cons (pe_op op_fdivW (pe_op op_mod (pe_callTy call_int1 (by rfl) mi (by decide +kernel) (pa_cons (pe_op op_mulW (pe_ix ix_list (pv 0) pe_int (fun _ _ => rfl)) (pe_ix ix_list (pv 0) pe_int (fun _ _ => rfl))) pa_nil)) pe_int) pe_int) pa_nil)) (pv 1))))), ?_⟩
    have hq : ∀ H1, Go pp p [] G H G H1 → Q (.int (drawV m p)) (upd H1 a (.lst [.int (drawS m p).1, .int (drawS m p).2])) := fun H1 g1 => q _ G _ (g1.trans (Go.pot g1.cf ha)) (.int _)
    have w0 : (p.2 * 39373 + 12227) % 2147483629 < 2147483629 := Int.emod_lt_of_pos _ (by decide)
    have w1 : 0 ≤ (p.2 * 39373 + 12227) % 2147483629 := Int.emod_nonneg _ (by decide)
    refine ⟨.ref a, rfl, a, [.int p.1, .int p.2], 0, .int p.1, rfl, rfl, .inl (.inl hH), rfl, p.1, 0, rfl, rfl, _, rfl, ite2 (fun hp => ?_) (fun hp => ?_)⟩
    · have hp' : 0 < p.1 := of_decide_eq_true hp
      have ev : drawV m p = p.1 % m := if_pos hp'
      have es : drawS m p = (p.1 / m, p.2) := if_pos hp'
      rw [ev, es] at hq
      refine ⟨.ref a, rfl, a, [.int p.1, .int p.2], 0, .int p.1, rfl, rfl, .inl (.inl hH), rfl, .int m, rfl, p.1, m, rfl, ⟨m0, m1⟩, fun t ht => ?_⟩
      have hat : a ≠ t := ne_of_none hH ht
      have hH1 : upd H t (.tup [.int (p.1 / m), .int (p.1 % m)]) a = some (.lst [.int p.1, .int p.2]) := by
        rw [upd_ne hat]
        exact hH
      refine ⟨t, [.int (p.1 / m), .int (p.1 % m)], rfl, .inl (.inl upd_same), rfl, .int (p.1 / m), [.int (p.1 % m)], rfl, .ref a, rfl, a, [.int p.1, .int p.2], 0, 0, rfl, rfl, hH1, rfl, .int (p.1 % m), [], rfl, rfl, .int (p.1 % m), rfl, ?_⟩
      exact hq _ (Go.hide c ht)
    · have hp' : ¬ 0 < p.1 := fun z => hp (decide_eq_true z)
      have ev : drawV m p = ((p.2 * 39373 + 12227) % 2147483629 * ((p.2 * 39373 + 12227) % 2147483629) % 2147483563 / 13) % m := if_neg hp'
      have es : drawS m p = (p.1, (p.2 * 39373 + 12227) % 2147483629) := if_neg hp'
      rw [ev, es] at hq
      generalize hb : (p.2 * 39373 + 12227) % 2147483629 = b at hq w0 w1
      refine ⟨.ref a, rfl, a, [.int p.1, .int p.2], 1, .int p.2, rfl, rfl, .inl (.inl hH), rfl, p.2, 39373, rfl, rfl, wide_mul (a := 32) (b := 32) (by omega) (by decide) (by decide) (by decide) (by decide), _, 12227, rfl, rfl, .inl ⟨_, rfl, _, 2147483629, rfl, rfl, (show (0 : Int) < 2147483629 by decide), ?_⟩⟩
      refine ⟨.ref a, rfl, a, [.int p.1, .int p.2], 1, 1, rfl, rfl, hH, rfl, ?_⟩
      have hH2 : upd H a (.lst ([V.int p.1, V.int p.2].set 1 (.int ((p.2 * 39373 + 12227) % 2147483629)))) a = some (.lst [.int p.1, .int b]) := by
        rw [upd_same, hb]
        rfl
      refine ⟨.ref a, rfl, a, [.int p.1, .int b], 1, .int b, rfl, rfl, .inl (.inl hH2), rfl, .ref a, rfl, a, [.int p.1, .int b], 1, .int b, rfl, rfl, .inl (.inl hH2), rfl, b, b, rfl, rfl, wide_mul (a := 32) (b := 32) (by omega) (by omega) (by decide) (by decide) (by decide), .inl ⟨_, rfl, _, 2147483563, rfl, rfl, (show (0 : Int) < 2147483563 by decide), _, 13, rfl, rfl, wide_div (b := 4) (by decide) (by decide) (by decide) (by decide), .inl ⟨_, rfl, .int m, rfl, _, m, rfl, rfl, m0, ?_⟩⟩⟩
      have := hq H (Go.refl c)
      rw [← hb]
      rw [← hb] at this
      exact this

theorem sc_callback_key : FnScope [Str.ofString "callback"] [Str.ofString "callback"] (defScope s_callback_key) := ⟨rfl, rfl, rfl, by decide +kernel, rfl, by decide +kernel, by decide +kernel⟩
def g_callback_key : SG := (sRet (eIf (asB (eUn (isiD "str") (eVar 0))) (eTup (aCons (eC (.int 0)) (aCons (eVar 0) (aCons (eTup aNil) aNil)))) (eTup (aCons (eC (.int 1)) (aCons (eOp ixD (eVar 0) (eC (.int 0))) (aCons (eOp ixD (eVar 0) (eC (.int 1))) aNil))))))
def f_callback_key : List PyData → Pt → Option (PyData × Pt) := runF 1 g_callback_key
theorem w_callback_key (T : TX K mg) (TI : TBI T base) : FnD P w K mg base 1 T.a_callback_key T.fd_callback_key [Str.ofString "callback"] f_callback_key :=
  fn_of_body T.F_callback_key sc_callback_key (by decide) (fun cdv A outer s H E hr => (pds_one (pds_ret (pd_if (pdt_val (pd_isi (by rfl) T.m_isinstance (by rfl) T.m_str (by decide +kernel) (pd_var 0))) (pd_tup (pda_cons pd_int (pda_cons (pd_var 0) (pda_cons (pd_tup pda_nil) pda_nil)))) (pd_tup (pda_cons pd_int (pda_cons (pd_ix ixd (fun _ _ => rfl) (pd_var 0) pd_int) (pda_cons (pd_ix ixd (fun _ _ => rfl) (pd_var 0) pd_int) pda_nil))))))))
theorem sc_callbacks_key : FnScope [Str.ofString "callbacks", Str.ofString "callback"] [Str.ofString "callbacks"] (defScope s_callbacks_key) := ⟨rfl, rfl, rfl, by decide +kernel, rfl, by decide +kernel, by decide +kernel⟩
def g_callbacks_key : SG := (sRet (eCB (one tupleD) (aCons (eLc (iOf (eVar 0)) (tName 1) bYes (eCall f_callback_key (aCons (eVar 1) aNil)) [1]) aNil)))
def f_callbacks_key : List PyData → Pt → Option (PyData × Pt) := runF 2 g_callbacks_key
theorem w_callbacks_key (T : TX K mg) (TI : TBI T base) : FnD P w K mg base 2 T.a_callbacks_key T.fd_callbacks_key [Str.ofString "callbacks"] f_callbacks_key :=
  fn_of_body T.F_callbacks_key sc_callbacks_key (by decide) (fun cdv A outer s H E hr => (pds_one (pds_ret (pd_callTy cd_tuple (by rfl) T.m_tuple (by decide +kernel) (pda_cons (pd_lc (own := [(Str.ofString "callback", 1)]) rfl sc_callbacks_key.nd (pdi_data (pd_var 0)) (blkOk_by (by first | decide +kernel | rfl)) (fun _ _ _ _ _ => (pdg_name (i := 1) sc_callbacks_key.nd rfl (by first | exact Or.inl rfl | exact Or.inr rfl))) (fun _ _ _ _ _ => pdts_nil) (fun _ _ _ _ _ => (pd_call (w_callback_key T TI) (hr.mono (by decide)) (by rfl) T.g_callback_key T.F_callback_key.kp T.b_callback_key (pda_cons (pd_var 1) pda_nil) (aCons_l aNil_l))) (by decide)) pda_nil)))))
theorem sc_set_key : FnScope [Str.ofString "callbacks"] [Str.ofString "callbacks"] (defScope s_set_key) := ⟨rfl, rfl, rfl, by decide +kernel, rfl, by decide +kernel, by decide +kernel⟩
def g_set_key : SG := (sRet (eTup (aCons (eCB (one lenD) (aCons (eVar 0) aNil)) (aCons (eCall f_callbacks_key (aCons (eVar 0) aNil)) aNil))))
def f_set_key : List PyData → Pt → Option (PyData × Pt) := runF 1 g_set_key
theorem w_set_key (T : TX K mg) (TI : TBI T base) : FnD P w K mg base 3 T.a_set_key T.fd_set_key [Str.ofString "callbacks"] f_set_key :=
  fn_of_body T.F_set_key sc_set_key (by decide) (fun cdv A outer s H E hr => (pds_one (pds_ret (pd_tup (pda_cons (pd_callB cd_len (by rfl) T.m_len (by decide +kernel) (pda_cons (pd_var 0) pda_nil)) (pda_cons (pd_call (w_callbacks_key T TI) (hr.mono (by decide)) (by rfl) T.g_callbacks_key T.F_callbacks_key.kp T.b_callbacks_key (pda_cons (pd_var 0) pda_nil) (aCons_l aNil_l)) pda_nil))))))
theorem sc_is_within : FnScope [Str.ofString "one", Str.ofString "other", Str.ofString "item"] [Str.ofString "one", Str.ofString "other"] (defScope s_is_within) := ⟨rfl, rfl, rfl, by decide +kernel, rfl, by decide +kernel, by decide +kernel⟩
def g_is_within : SG := (sRet (eCB (one allD) (aCons (eLc (iOf (eVar 0)) (tName 2) bYes (eOp (inD false) (eVar 2) (eVar 1)) [2]) aNil)))
def f_is_within : List PyData → Pt → Option (PyData × Pt) := runF 3 g_is_within
theorem w_is_within (T : TX K mg) (TI : TBI T base) : FnD P w K mg base 1 T.a_is_within T.fd_is_within [Str.ofString "one", Str.ofString "other"] f_is_within :=
  fn_of_body T.F_is_within sc_is_within (by decide) (fun cdv A outer s H E hr => (pds_one (pds_ret (pd_callB (cd_all rfl) (by rfl) T.m_all (by decide +kernel) (pda_cons (pd_lc (own := [(Str.ofString "item", 2)]) rfl sc_is_within.nd (pdi_data (pd_var 0)) (blkOk_by (by first | decide +kernel | rfl)) (fun _ _ _ _ _ => (pdg_name (i := 2) sc_is_within.nd rfl (by first | exact Or.inl rfl | exact Or.inr rfl))) (fun _ _ _ _ _ => pdts_nil) (fun _ _ _ _ _ => (pd_cmp (opd_in (hu_n hr 65 (by decide))) (pd_var 2) (pd_var 1) (by rfl))) (by decide)) pda_nil)))))
theorem sc_least_sets : FnScope [Str.ofString "sets", Str.ofString "some", Str.ofString "one", Str.ofString "other"] [Str.ofString "sets"] (defScope s_least_sets) := ⟨rfl, rfl, rfl, by decide +kernel, rfl, by decide +kernel, by decide +kernel⟩
def g_least_sets : SG := (sSeq (sSet 1 (eSortK f_set_key (eUn uniqD (eVar 0)))) (sRet (eCB (one tupleD) (aCons (eLc (iOf (eVar 1)) (tName 2) (bNot (asB (eCB (one anyD) (aCons (eLc (iOf (eVar 1)) (tName 3) (asB (eOp neD (eVar 3) (eVar 2))) (eCall f_is_within (aCons (eVar 3) (aCons (eVar 2) aNil))) [3]) aNil)))) (eVar 2) [2]) aNil))))
def f_least_sets : List PyData → Pt → Option (PyData × Pt) := runF 4 g_least_sets
theorem w_least_sets (T : TX K mg) (TI : TBI T base) : FnD P w K mg base 5 T.a_least_sets T.fd_least_sets [Str.ofString "sets"] f_least_sets :=
  fn_of_body T.F_least_sets sc_least_sets (by decide) (fun cdv A outer s H E hr => (pds_seq (pds_set (i := 1) sc_least_sets.nd rfl (by first | exact Or.inl rfl | exact Or.inr rfl) (pd_sortK (w_set_key T TI) (hr.mono (by decide)) T.b_set_key (by rfl) T.m_sorted (by rfl) T.g_set_key (pd_uniq rfl (hu_n hr 8 (by decide)) (by rfl) T.m_list (pd_var 0) (by rfl) rfl (by decide +kernel) (by decide +kernel)))) (pds_one (pds_ret (pd_callTy cd_tuple (by rfl) T.m_tuple (by decide +kernel) (pda_cons (pd_lc (own := [(Str.ofString "one", 2)]) rfl sc_least_sets.nd (pdi_data (pd_var 1)) (blkOk_by (by first | decide +kernel | rfl)) (fun _ _ _ _ _ => (pdg_name (i := 2) sc_least_sets.nd rfl (by first | exact Or.inl rfl | exact Or.inr rfl))) (fun _ _ _ _ _ => (pdts_one (pdt_not (pdt_val (pd_callB (cd_any rfl) (by rfl) T.m_any (by decide +kernel) (pda_cons (pd_lc (own := [(Str.ofString "other", 3)]) rfl sc_least_sets.nd (pdi_data (pd_var 1)) (blkOk_by (by first | decide +kernel | rfl)) (fun _ _ _ _ _ => (pdg_name (i := 3) sc_least_sets.nd rfl (by first | exact Or.inl rfl | exact Or.inr rfl))) (fun _ _ _ _ _ => (pdts_one (pdt_cmp (opd_ne (hu_n hr 64 (by decide))) (pd_var 3) (pd_var 2) (nomark _)))) (fun _ _ _ _ _ => (pd_call (w_is_within T TI) (hr.mono (by decide)) (by rfl) T.g_is_within T.F_is_within.kp T.b_is_within (pda_cons (pd_var 3) (pda_cons (pd_var 2) pda_nil)) (aCons_l (aCons_l aNil_l)))) (by decide)) pda_nil)))))) (fun _ _ _ _ _ => (pd_var 2)) (by decide)) pda_nil))))))
theorem sc__law_pick : FnScope [Str.ofString "_law_pot_here", Str.ofString "_law_some"] [Str.ofString "_law_pot_here", Str.ofString "_law_some"] (defScope s__law_pick) := ⟨rfl, rfl, rfl, by decide +kernel, rfl, by decide +kernel, by decide +kernel⟩
def g__law_pick : SG := (sRet (eOp ixD (eVar 1) (eCall f__law_draw (aCons (eVar 0) (aCons (eCB (one lenD) (aCons (eVar 1) aNil)) aNil)))))
def f__law_pick : List PyData → Pt → Option (PyData × Pt) := runF 2 g__law_pick
theorem w__law_pick (T : TX K mg) (TI : TBI T base) : FnD P w K mg base 2 T.a__law_pick T.fd__law_pick [Str.ofString "_law_pot_here", Str.ofString "_law_some"] f__law_pick :=
  fn_of_body T.F__law_pick sc__law_pick (by decide) (fun cdv A outer s H E hr => (pds_one (pds_ret (pd_ix ixd (fun _ _ => rfl) (pd_var 1) (pd_call (w__law_draw T TI) (hr.mono (by decide)) (by rfl) T.g__law_draw T.F__law_draw.kp T.b__law_draw (pda_cons (pd_var 0) (pda_cons (pd_callB cd_len (by rfl) T.m_len (by decide +kernel) (pda_cons (pd_var 1) pda_nil)) pda_nil)) (aCons_l (aCons_l aNil_l)))))))
theorem sc__law_place : FnScope [Str.ofString "_law_back"] [Str.ofString "_law_back"] (defScope s__law_place) := ⟨rfl, rfl, rfl, by decide +kernel, rfl, by decide +kernel, by decide +kernel⟩
def g__law_place : SG := (sRet (eIf (asB (eUn (isiD "str") (eVar 0))) (eTup (aCons (eC (.int 0)) (aCons (eVar 0) (aCons (eTup aNil) aNil)))) (eTup (aCons (eC (.int 1)) (aCons (eOp ixD (eVar 0) (eC (.int 0))) (aCons (eOp ixD (eVar 0) (eC (.int 1))) aNil))))))
def f__law_place : List PyData → Pt → Option (PyData × Pt) := runF 1 g__law_place
theorem w__law_place (T : TX K mg) (TI : TBI T base) : FnD P w K mg base 1 T.a__law_place T.fd__law_place [Str.ofString "_law_back"] f__law_place :=
  fn_of_body T.F__law_place sc__law_place (by decide) (fun cdv A outer s H E hr => (pds_one (pds_ret (pd_if (pdt_val (pd_isi (by rfl) T.m_isinstance (by rfl) T.m_str (by decide +kernel) (pd_var 0))) (pd_tup (pda_cons pd_int (pda_cons (pd_var 0) (pda_cons (pd_tup pda_nil) pda_nil)))) (pd_tup (pda_cons pd_int (pda_cons (pd_ix ixd (fun _ _ => rfl) (pd_var 0) pd_int) (pda_cons (pd_ix ixd (fun _ _ => rfl) (pd_var 0) pd_int) pda_nil))))))))
theorem sc__law_within : FnScope [Str.ofString "_law_one", Str.ofString "_law_other", Str.ofString "_law_back"] [Str.ofString "_law_one", Str.ofString "_law_other"] (defScope s__law_within) := ⟨rfl, rfl, rfl, by decide +kernel, rfl, by decide +kernel, by decide +kernel⟩
def g__law_within : SG := (sRet (eCB (one allD) (aCons (eLc (iOf (eVar 0)) (tName 2) bYes (eOp (inD false) (eVar 2) (eVar 1)) [2]) aNil)))
def f__law_within : List PyData → Pt → Option (PyData × Pt) := runF 3 g__law_within
theorem w__law_within (T : TX K mg) (TI : TBI T base) : FnD P w K mg base 1 T.a__law_within T.fd__law_within [Str.ofString "_law_one", Str.ofString "_law_other"] f__law_within :=
  fn_of_body T.F__law_within sc__law_within (by decide) (fun cdv A outer s H E hr => (pds_one (pds_ret (pd_callB (cd_all rfl) (by rfl) T.m_all (by decide +kernel) (pda_cons (pd_lc (own := [(Str.ofString "_law_back", 2)]) rfl sc__law_within.nd (pdi_data (pd_var 0)) (blkOk_by (by first | decide +kernel | rfl)) (fun _ _ _ _ _ => (pdg_name (i := 2) sc__law_within.nd rfl (by first | exact Or.inl rfl | exact Or.inr rfl))) (fun _ _ _ _ _ => pdts_nil) (fun _ _ _ _ _ => (pd_cmp (opd_in (hu_n hr 65 (by decide))) (pd_var 2) (pd_var 1) (by rfl))) (by decide)) pda_nil)))))
def g__law_least_l0 : EG := (eTup (aCons (eCB (one lenD) (aCons (eVar 0) aNil)) (aCons (eLc (iOf (eVar 0)) (tName 1) bYes (eCall f__law_place (aCons (eVar 1) aNil)) [1]) aNil)))
theorem nd__law_least_l0 : ([Str.ofString "_law_one", Str.ofString "_law_back"] : List Str).Nodup := by decide +kernel
theorem sc__law_least : FnScope [Str.ofString "_law_some", Str.ofString "_law_found", Str.ofString "_law_one", Str.ofString "_law_others", Str.ofString "_law_two", Str.ofString "_law_back"] [Str.ofString "_law_some"] (defScope s__law_least) := ⟨rfl, rfl, rfl, by decide +kernel, rfl, by decide +kernel, by decide +kernel⟩
def g__law_least : SG := (sSeq (sNew 1) (sSeq (sFor (iOf (eVar 0)) (tName 2) (sSeq (sSet 3 (eLc (iOf (eVar 0)) (tName 4) (bAnd (asB (eOp neD (eVar 4) (eVar 2))) (asB (eCall f__law_within (aCons (eVar 4) (aCons (eVar 2) aNil))))) (eVar 4) [4])) (sIf (bFrz 1 (bAnd (asB (eOp eqD (eVar 3) (eLst aNil))) (asB (eOp (inD true) (eVar 2) (eVar 1))))) (sApp 1 (eVar 2)) sNil))) (sFrz 1 (sRet (eCB (one tupleD) (aCons (eSortK (runE 2 g__law_least_l0) (eVar 1)) aNil))))))
def f__law_least : List PyData → Pt → Option (PyData × Pt) := runF 6 g__law_least
theorem w__law_least (T : TX K mg) (TI : TBI T base) : FnD P w K mg base 4 T.a__law_least T.fd__law_least [Str.ofString "_law_some"] f__law_least := by
  refine fn_of_bodyC T.C__law_least sc__law_least (by decide) (fun A outer s H E hr => ?_)
  have hTB := TI.tb__law_least
  have hcode : (cxOf CX0 P w K mg base [Str.ofString "_law_some", Str.ofString "_law_found", Str.ofString "_law_one", Str.ofString "_law_others", Str.ofString "_law_two", Str.ofString "_law_back"] "_law_least" (defScope s__law_least) T.a__law_least (.ref T.c__law_least) A outer s H E).nox.env.code = .ref T.c__law_least := rfl
  have hmT := TI.mt__law_least
  have hu := TI.u__law_least
  exact (pds_seq (pds_new (i := 1) sc__law_least.nd rfl (by first | exact Or.inl rfl | exact Or.inr rfl)) (pds_seq (pds_for PassesOwn.never rfl (pdi_data (pd_var 0)) (pdg_name (i := 2) sc__law_least.nd rfl (by first | exact Or.inl rfl | exact Or.inr rfl)) (pds_seq (pds_setLc (i := 3) (own := [(Str.ofString "_law_two", 4)]) rfl sc__law_least.nd rfl rfl (sw_true rfl rfl rfl (by decide +kernel)) (pdi_data (pd_var 0)) (blkOk_by (by first | decide +kernel | rfl)) (fun _ _ _ _ _ => (pdg_name (i := 4) sc__law_least.nd rfl (by first | exact Or.inl rfl | exact Or.inr rfl))) (fun _ _ _ _ _ => (pdts_one (PW.pt (pdw_and (pdt_cmp (opd_ne (hu_n hr 64 (by decide))) (pd_var 4) (pd_var 2) (nomark _)) (pdw_and1 (pdt_val (pd_call (w__law_within T TI) (hr.mono (by decide)) (by rfl) T.g__law_within T.F__law_within.kp T.b__law_within (pda_cons (pd_var 4) (pda_cons (pd_var 2) pda_nil)) (aCons_l (aCons_l aNil_l))))))))) (fun _ _ _ _ _ => (pd_var 4)) (by decide)) (pds_one (pds_if (pdt_frz (i := 1) (PW.pt (pdw_and (pdt_cmp (opd_eq (hu_n hr 64 (by decide))) (pd_var 3) (pd_lst pda_nil) (nomark _)) (pdw_and1 (pdt_cmp (opd_notIn (hu_n hr 65 (by decide))) (pd_var 2) (pd_var 1) (by rfl)))))) (pds_one (pds_app (i := 1) rfl (by first | exact Or.inl rfl | exact Or.inr (Or.inl rfl)) (pd_var 2))) pds_nil)))) (pds_frz (pds_one (pds_ret (pd_callTy cd_tuple (by rfl) T.m_tuple (by decide +kernel) (pda_cons (pd_sortL (k := 1) (c := T.c__law_least) (P := T.t__law_least) (N := [Str.ofString "_law_one", Str.ofString "_law_back"]) (a := Str.ofString "_law_one") rfl ⟨by rfl, by rfl, by rfl, by decide +kernel, by rfl, by decide +kernel, by decide +kernel⟩ (hr.mono (by decide)) (by rfl) T.m_sorted hTB hcode hmT hu (by rfl) (by rfl) (by decide +kernel) (fun _ _ _ _ _ => rfl) (pd_var 1) (fun f cv A outer s H E hr => (pd_tup (pda_cons (pd_callB cd_len (by rfl) T.m_len (by decide +kernel) (pda_cons (pd_var 0) pda_nil)) (pda_cons (pd_lc (own := [(Str.ofString "_law_back", 1)]) rfl nd__law_least_l0 (pdi_data (pd_var 0)) (blkOk_by (by first | decide +kernel | rfl)) (fun _ _ _ _ _ => (pdg_name (i := 1) nd__law_least_l0 rfl (by first | exact Or.inl rfl | exact Or.inr rfl))) (fun _ _ _ _ _ => pdts_nil) (fun _ _ _ _ _ => (pd_call (w__law_place T TI) (hr.mono (by decide)) (by rfl) T.g__law_place T.F__law_place.kp T.b__law_place (pda_cons (pd_var 1) pda_nil) (aCons_l aNil_l))) (by decide)) pda_nil))))) pda_nil)))))))
theorem sc_law : FnScope [Str.ofString "_law_script", Str.ofString "_law_k", Str.ofString "_law_pot_here", Str.ofString "_law_backs", Str.ofString "_law_upper", Str.ofString "_law_some", Str.ofString "_law_turn", Str.ofString "_law_due", Str.ofString "_law_kept", Str.ofString "_law_wider", Str.ofString "_law_back"] [Str.ofString "_law_script"] (defScope s_law) := ⟨rfl, rfl, rfl, by decide +kernel, rfl, by decide +kernel, by decide +kernel⟩
def g_law : SG := (sSeq (sFor (iRange (aCons (eCB max2 (aCons (eC (.int 1)) (aCons (eCB min2 (aCons (eC (.int 8)) (aCons (eCB (one lenD) (aCons (eVar 0) aNil)) aNil))) aNil))) aNil)) (tName 1) (sPot 2 f__law_pot (aCons (eVar 0) (aCons (eVar 1) aNil)) (sSeq (sSet 3 (eLst (aCons (eC (.str (Str.ofString "b"))) (aCons (eC (.str (Str.ofString "c"))) (aCons (eC (.str (Str.ofString "zz"))) (aCons (eTup (aCons (eC (.str (Str.ofString "a"))) (aCons (eTup aNil) aNil))) (aCons (eTup (aCons (eC (.str (Str.ofString "a"))) (aCons (eTup (aCons (eC (.str (Str.ofString "b"))) aNil)) aNil))) (aCons (eTup (aCons (eC (.str (Str.ofString "b"))) (aCons (eTup aNil) aNil))) aNil)))))))) (sSeq (sSet 4 (eCall f__law_pick (aCons (eVar 2) (aCons (eLst (aCons (eC (.int 2)) (aCons (eC (.int 2)) (aCons (eC (.int 3)) aNil)))) aNil)))) (sSeq (sNew 5) (sSeq (sFor (iRange (aCons (eCall f__law_draw (aCons (eVar 2) (aCons (eC (.int 10)) aNil))) aNil)) (tName 6) (sApp 5 (eCB (one tupleD) (aCons (eLc (iOf (eVar 3)) (tName 10) (asB (eOp eqD (eCB (one intD) (aCons (eCall f__law_draw (aCons (eVar 2) (aCons (eVar 4) aNil))) aNil)) (eC (.int 0)))) (eVar 10) [10]) aNil)))) (sFrz 5 (sSeq (sPar 7 8 (aCons (eCall f__law_least (aCons (eVar 5) aNil)) (aCons (eCB (one listD) (aCons (eVar 5) aNil)) aNil))) (sSeq (sIf (bOr (asB (eOp neD (eCall f_least_sets (aCons (eVar 5) aNil)) (eVar 7))) (bOr (asB (eOp neD (eCall f_least_sets (aCons (eCB (one tupleD) (aCons (eOp addD (eUn revD (eVar 5)) (eSl (eVar 5) oNone (oSome (eC (.int 3))))) aNil)) aNil)) (eVar 7))) (asB (eOp neD (eCall f_least_sets (aCons (eVar 7) aNil)) (eVar 7))))) (sRet (eC (.bool false))) sNil) (sSeq (sIf (asB (eOp neD (eVar 5) (eVar 8))) (sRet (eC (.bool false))) sNil) (sIf (asB (eOp neD (eVar 7) (eTup aNil))) (sSeq (sSet 9 (eOp addD (eCall f__law_pick (aCons (eVar 2) (aCons (eVar 7) aNil))) (eTup (aCons (eTup (aCons (eC (.str (Str.ofString "zz"))) (aCons (eTup aNil) aNil))) aNil)))) (sIf (bOr (asB (eOp neD (eCall f_least_sets (aCons (eOp addD (eLst (aCons (eVar 9) aNil)) (eVar 5)) aNil)) (eVar 7))) (asB (eOp neD (eCall f_least_sets (aCons (eOp addD (eVar 5) (eLst (aCons (eTup aNil) aNil))) aNil)) (eTup (aCons (eTup aNil) aNil))))) (sRet (eC (.bool false))) sNil)) sNil))))))))))) (sRet (eC (.bool true))))
def f_law : List PyData → Pt → Option (PyData × Pt) := runF 11 g_law
theorem w_law (T : TX K mg) (TI : TBI T base) : FnD P w K mg base 6 T.a_law T.fd_law [Str.ofString "_law_script"] f_law :=
  fn_of_body T.F_law sc_law (by decide) (fun cdv A outer s H E hr => (pds_seq (pds_for PassesOwn.never rfl (pdi_range1 (by rfl) T.m_range (pda_cons (pd_callB (cd_max2 rfl) (by rfl) T.m_max (by decide +kernel) (pda_cons pd_int (pda_cons (pd_callB (cd_min2 rfl) (by rfl) T.m_min (by decide +kernel) (pda_cons pd_int (pda_cons (pd_callB cd_len (by rfl) T.m_len (by decide +kernel) (pda_cons (pd_var 0) pda_nil)) pda_nil))) pda_nil))) pda_nil)) (pdg_name (i := 1) sc_law.nd rfl (by first | exact Or.inl rfl | exact Or.inr rfl)) (pds_pot (i := 2) sc_law.nd rfl (by first | exact Or.inl rfl | exact Or.inr rfl) (w__law_pot T TI) (hr.mono (by decide)) (by rfl) T.g__law_pot T.F__law_pot.kp T.b__law_pot (pda_cons (pd_var 0) (pda_cons (pd_var 1) pda_nil)) (aCons_l (aCons_l aNil_l)) (pds_seq (pds_set (i := 3) sc_law.nd rfl (by first | exact Or.inl rfl | exact Or.inr rfl) (pd_lst (pda_cons pd_str (pda_cons pd_str (pda_cons pd_str (pda_cons (pd_tup (pda_cons pd_str (pda_cons (pd_tup pda_nil) pda_nil))) (pda_cons (pd_tup (pda_cons pd_str (pda_cons (pd_tup (pda_cons pd_str pda_nil)) pda_nil))) (pda_cons (pd_tup (pda_cons pd_str (pda_cons (pd_tup pda_nil) pda_nil))) pda_nil)))))))) (pds_seq (pds_set (i := 4) sc_law.nd rfl (by first | exact Or.inl rfl | exact Or.inr rfl) (pd_call (w__law_pick T TI) (hr.mono (by decide)) (by rfl) T.g__law_pick T.F__law_pick.kp T.b__law_pick (pda_cons (pd_var 2) (pda_cons (pd_lst (pda_cons pd_int (pda_cons pd_int (pda_cons pd_int pda_nil)))) pda_nil)) (aCons_l (aCons_l aNil_l)))) (pds_seq (pds_new (i := 5) sc_law.nd rfl (by first | exact Or.inl rfl | exact Or.inr rfl)) (pds_seq (pds_for PassesOwn.never rfl (pdi_range1 (by rfl) T.m_range (pda_cons (pd_call (w__law_draw T TI) (hr.mono (by decide)) (by rfl) T.g__law_draw T.F__law_draw.kp T.b__law_draw (pda_cons (pd_var 2) (pda_cons pd_int pda_nil)) (aCons_l (aCons_l aNil_l))) pda_nil)) (pdg_name (i := 6) sc_law.nd rfl (by first | exact Or.inl rfl | exact Or.inr rfl)) (pds_one (pds_app (i := 5) rfl (by first | exact Or.inl rfl | exact Or.inr (Or.inl rfl)) (pd_callTy cd_tuple (by rfl) T.m_tuple (by decide +kernel) (pda_cons (pd_lc (own := [(Str.ofString "_law_back", 10)]) rfl sc_law.nd (pdi_data (pd_var 3)) (blkOk_by (by first | decide +kernel | rfl)) (fun _ _ _ _ _ => (pdg_name (i := 10) sc_law.nd rfl (by first | exact Or.inl rfl | exact Or.inr rfl))) (fun _ _ _ _ _ => (pdts_one (pdt_cmp (opd_eq (hu_n hr 64 (by decide))) (pd_callTy cd_int (by rfl) T.m_int (by decide +kernel) (pda_cons (pd_call (w__law_draw T TI) (hr.mono (by decide)) (by rfl) T.g__law_draw T.F__law_draw.kp T.b__law_draw (pda_cons (pd_var 2) (pda_cons (pd_var 4) pda_nil)) (aCons_l (aCons_l aNil_l))) pda_nil)) pd_int (nomark _)))) (fun _ _ _ _ _ => (pd_var 10)) (by decide)) pda_nil))))) (pds_frz (pds_seq (pds_par (i := 7) (j := 8) rfl sc_law.nd rfl rfl (by decide) rfl rfl (pda_cons (pd_call (w__law_least T TI) (hr.mono (by decide)) (by rfl) T.g__law_least T.F__law_least.kp T.b__law_least (pda_cons (pd_var 5) pda_nil) (aCons_l aNil_l)) (pda_cons (pd_callTy cd_list (by rfl) T.m_list (by decide +kernel) (pda_cons (pd_var 5) pda_nil)) pda_nil)) (by rfl)) (pds_seq (pds_if (PW.pt (pdw_or (pdt_cmp (opd_ne (hu_n hr 64 (by decide))) (pd_call (w_least_sets T TI) (hr.mono (by decide)) (by rfl) T.g_least_sets T.F_least_sets.kp T.b_least_sets (pda_cons (pd_var 5) pda_nil) (aCons_l aNil_l)) (pd_var 7) (nomark _)) (pdw_or (pdt_cmp (opd_ne (hu_n hr 64 (by decide))) (pd_call (w_least_sets T TI) (hr.mono (by decide)) (by rfl) T.g_least_sets T.F_least_sets.kp T.b_least_sets (pda_cons (pd_callTy cd_tuple (by rfl) T.m_tuple (by decide +kernel) (pda_cons (pd_op opd_add (pd_rev (pd_var 5)) (pd_slice (pd_var 5) pdo_none (pdo_some pd_int))) pda_nil)) pda_nil) (aCons_l aNil_l)) (pd_var 7) (nomark _)) (pdw_or1 (pdt_cmp (opd_ne (hu_n hr 64 (by decide))) (pd_call (w_least_sets T TI) (hr.mono (by decide)) (by rfl) T.g_least_sets T.F_least_sets.kp T.b_least_sets (pda_cons (pd_var 7) pda_nil) (aCons_l aNil_l)) (pd_var 7) (nomark _)))))) (pds_one (pds_ret pd_bl)) pds_nil) (pds_seq (pds_if (pdt_cmp (opd_ne (hu_n hr 64 (by decide))) (pd_var 5) (pd_var 8) (nomark _)) (pds_one (pds_ret pd_bl)) pds_nil) (pds_one (pds_if (pdt_cmp (opd_ne (hu_n hr 64 (by decide))) (pd_var 7) (pd_tup pda_nil) (nomark _)) (pds_seq (pds_set (i := 9) sc_law.nd rfl (by first | exact Or.inl rfl | exact Or.inr rfl) (pd_op opd_add (pd_call (w__law_pick T TI) (hr.mono (by decide)) (by rfl) T.g__law_pick T.F__law_pick.kp T.b__law_pick (pda_cons (pd_var 2) (pda_cons (pd_var 7) pda_nil)) (aCons_l (aCons_l aNil_l))) (pd_tup (pda_cons (pd_tup (pda_cons pd_str (pda_cons (pd_tup pda_nil) pda_nil))) pda_nil)))) (pds_one (pds_if (PW.pt (pdw_or (pdt_cmp (opd_ne (hu_n hr 64 (by decide))) (pd_call (w_least_sets T TI) (hr.mono (by decide)) (by rfl) T.g_least_sets T.F_least_sets.kp T.b_least_sets (pda_cons (pd_op opd_add (pd_lst (pda_cons (pd_var 9) pda_nil)) (pd_var 5)) pda_nil) (aCons_l aNil_l)) (pd_var 7) (nomark _)) (pdw_or1 (pdt_cmp (opd_ne (hu_n hr 64 (by decide))) (pd_call (w_least_sets T TI) (hr.mono (by decide)) (by rfl) T.g_least_sets T.F_least_sets.kp T.b_least_sets (pda_cons (pd_op opd_add (pd_var 5) (pd_lst (pda_cons (pd_tup pda_nil) pda_nil))) pda_nil) (aCons_l aNil_l)) (pd_tup (pda_cons (pd_tup pda_nil) pda_nil)) (nomark _))))) (pds_one (pds_ret pd_bl)) pds_nil))) pds_nil)))))))))))) (pds_one (pds_ret pd_bl))))
end
end K37

set_option Elab.async false
set_option linter.all false
set_option maxRecDepth 100000
set_option maxHeartbeats 1000000
/-! k37, the plain law: the callbacks that the law uses, their data. -/
namespace K37
open PySem L2 DL
inductive CB where
  | b | c | zz | a0 | ab | b0 | z0
  deriving DecidableEq
abbrev S (x : String) : PyData := .str (Str.ofString x)
def enc : CB → PyData
  | .b => S "b"
  | .c => S "c"
  | .zz => S "zz"
  | .a0 => .tuple [S "a", .tuple []]
  | .ab => .tuple [S "a", .tuple [S "b"]]
  | .b0 => .tuple [S "b", .tuple []]
  | .z0 => .tuple [S "zz", .tuple []]
def ckey : CB → PyData
  | .b => .tuple [.int 0, S "b", .tuple []]
  | .c => .tuple [.int 0, S "c", .tuple []]
  | .zz => .tuple [.int 0, S "zz", .tuple []]
  | .a0 => .tuple [.int 1, S "a", .tuple []]
  | .ab => .tuple [.int 1, S "a", .tuple [S "b"]]
  | .b0 => .tuple [.int 1, S "b", .tuple []]
  | .z0 => .tuple [.int 1, S "zz", .tuple []]
abbrev CS := List CB
def encS (s : CS) : PyData := .tuple (s.map enc)
theorem ofS_ne {x y : String} (h : (Str.ofString x == Str.ofString y) = false) : Str.ofString x ≠ Str.ofString y := fun z => by
  rw [z] at h
  simp at h
theorem eqv_enc (x y : CB) : PyData.eqv (enc x) (enc y) = decide (x = y) := by
  cases x <;> cases y <;> simp only [enc, S, PyData.eqv, PyData.eqvAll] <;> decide +kernel
theorem lay_enc (x : CB) : (enc x).canLay0 = true := by cases x <;> simp only [enc, S, PyData.canLay0, PyData.canLayAll0] <;> decide +kernel
theorem depth_enc (x : CB) : (enc x).depth ≤ 2 := by cases x <;> simp [enc, S, PyData.depth, PyData.depthAll]
theorem lay_encs : ∀ s : CS, PyData.canLayAll0 (s.map enc) = true
  | [] => by simp [PyData.canLayAll0]
  | x :: s => by simp only [List.map_cons, PyData.canLayAll0, lay_enc x, lay_encs s, Bool.and_self]
theorem depth_encs : ∀ s : CS, PyData.depthAll (s.map enc) ≤ 2
  | [] => by simp [PyData.depthAll]
  | x :: s => by
    have h1 := depth_enc x
    have h2 := depth_encs s
    simp only [List.map_cons, PyData.depthAll]
    omega
theorem lay_encS (s : CS) : (encS s).canLay0 = true := by simp only [encS, PyData.canLay0, lay_encs s]
theorem depth_encS (s : CS) : (encS s).depth ≤ 3 := by
  have := depth_encs s
  simp only [encS, PyData.depth]
  omega
theorem shp {d : PyData} (h : d.canLay0 = true) (h2 : d.depth ≤ 64) : SeqAt.shaped d = true := by
  show (d.canLay0 && decide (d.depth ≤ 64)) = true
  rw [h, decide_eq_true h2]
  rfl
theorem sh_enc (x : CB) : SeqAt.shaped (enc x) = true := shp (lay_enc x) (by have := depth_enc x; omega)
theorem sh_encS (s : CS) : SeqAt.shaped (encS s) = true := shp (lay_encS s) (by have := depth_encS s; omega)
theorem lay_encL : ∀ ss : List CS, PyData.canLayAll0 (ss.map encS) = true
  | [] => by simp [PyData.canLayAll0]
  | x :: s => by simp only [List.map_cons, PyData.canLayAll0, lay_encS x, lay_encL s, Bool.and_self]
theorem depth_encL : ∀ ss : List CS, PyData.depthAll (ss.map encS) ≤ 3
  | [] => by simp [PyData.depthAll]
  | x :: s => by
    have h1 := depth_encS x
    have h2 := depth_encL s
    simp only [List.map_cons, PyData.depthAll]
    omega
theorem sh_L (ss : List CS) : SeqAt.shaped (.list (ss.map encS)) = true := shp (by simp only [PyData.canLay0, lay_encL ss]) (by have := depth_encL ss; simp only [PyData.depth]; omega)
theorem sh_T (ss : List CS) : SeqAt.shaped (.tuple (ss.map encS)) = true := shp (by simp only [PyData.canLay0, lay_encL ss]) (by have := depth_encL ss; simp only [PyData.depth]; omega)
theorem eqv_encs : ∀ s t : CS, PyData.eqvAll (s.map enc) (t.map enc) = decide (s = t)
  | [], [] => by simp [PyData.eqvAll]
  | [], y :: t => by simp [PyData.eqvAll]
  | x :: s, [] => by simp [PyData.eqvAll]
  | x :: s, y :: t => by
    rw [List.map_cons, List.map_cons, PyData.eqvAll, eqv_enc, eqv_encs s t]
    by_cases h1 : x = y <;> by_cases h2 : s = t <;> simp [h1, h2]
theorem eqv_encS (s t : CS) : PyData.eqv (encS s) (encS t) = decide (s = t) := by
  simp only [encS, PyData.eqv]
  exact eqv_encs s t
theorem eqv_encL : ∀ s t : List CS, PyData.eqvAll (s.map encS) (t.map encS) = decide (s = t)
  | [], [] => by simp [PyData.eqvAll]
  | [], y :: t => by simp [PyData.eqvAll]
  | x :: s, [] => by simp [PyData.eqvAll]
  | x :: s, y :: t => by
    rw [List.map_cons, List.map_cons, PyData.eqvAll, eqv_encS, eqv_encL s t]
    by_cases h1 : x = y <;> by_cases h2 : s = t <;> simp [h1, h2]
theorem eqv_T (s t : List CS) : PyData.eqv (.tuple (s.map encS)) (.tuple (t.map encS)) = decide (s = t) := by
  rw [PyData.eqv]
  exact eqv_encL s t
theorem eqv_L (s t : List CS) : PyData.eqv (.list (s.map encS)) (.list (t.map encS)) = decide (s = t) := by
  rw [PyData.eqv]
  exact eqv_encL s t
/-! ### the program's small functions -/
theorem kit_ss : kitB "str" "str" = some true := by decide +kernel
theorem kit_ts : kitB "tuple" "str" = some false := by decide +kernel
theorem cbkey (x : CB) (ps : Pt) : f_callback_key [enc x] ps = some (ckey x, ps) := by
  cases x <;> simp [f_callback_key, g_callback_key, runF, startD, sRet, eIf, asB, eUn, eVar, isiD, tyName, enc, kit_ss, kit_ts, bindP, eTup, aCons, aNil, eC, fitsL, eOp, ixD, atI, ixN, ckey]
theorem lplace (x : CB) (ps : Pt) : f__law_place [enc x] ps = some (ckey x, ps) := by
  cases x <;> simp [f__law_place, g__law_place, runF, startD, sRet, eIf, asB, eUn, eVar, isiD, tyName, enc, kit_ss, kit_ts, bindP, eTup, aCons, aNil, eC, fitsL, eOp, ixD, atI, ixN, ckey]
end K37

set_option Elab.async false
set_option linter.all false
set_option maxRecDepth 100000
set_option maxHeartbeats 1000000
/-! k37, the plain law: the functions over encoded sets. -/
namespace K37
open PySem L2 DL
local instance : TBL := ⟨[]⟩
theorem fm_some {α β : Type} (f : α → β) (xs : List α) : xs.filterMap (fun x => some (f x)) = xs.map f := by
  induction xs with
  | nil => rfl
  | cons x r ih => simp [ih]
theorem aCons_two {g1 g2 : EG} {S0 : Sd} {p p1 p2 : Pt} {x y : PyData} (h1 : g1 S0 p = some (x, p1)) (h2 : g2 S0 p1 = some (y, p2)) : aCons g1 (aCons g2 aNil) S0 p = some ([x, y], p2) := by
  simp only [aCons, aNil, h1, h2, bindP_some]
theorem aCons_one {g1 : EG} {S0 : Sd} {p p1 : Pt} {x : PyData} (h1 : g1 S0 p = some (x, p1)) : aCons g1 aNil S0 p = some ([x], p1) := by
  simp only [aCons, aNil, h1, bindP_some]
def small (n : Nat) : Prop := n ≤ 1000
theorem fits_of {ds : List PyData} (h : ds.length ≤ 1000) : fitsL ds = true := decide_eq_true (by omega)
/-- a comprehension over encoded things, each turn without a change of the pot -/
theorem lc_enc {α : Type} {e : α → PyData} {it : AG} {t : Tgt} {test : BG} {elt : EG} {vs : List Nat} {Sd0 : Sd} {ps : Pt} {xs : List α} {g : α → Option PyData} (hi : it Sd0 ps = some (xs.map e, ps)) (hl : xs.length ≤ 1000) (h : ∀ x ∈ xs, lcStep t test elt (wipeD Sd0 vs) (e x) ps = some (g x, ps)) :
    eLc it t test elt vs Sd0 ps = some (.list (xs.filterMap g), ps) := by
  unfold eLc
  rw [hi, bindP_some, if_pos (fits_of (by rw [List.length_map]; exact hl))]
  have key : ∀ (ys : List α) (acc : List PyData), (∀ y ∈ ys, y ∈ xs) → lcGo (lcStep t test elt (wipeD Sd0 vs)) (ys.map e) ps acc = some (acc ++ ys.filterMap g, ps) := by
    intro ys
    induction ys with
    | nil => intro acc _; simp [lcGo]
    | cons y r ih =>
      intro acc hy
      rw [List.map_cons]
      unfold lcGo
      rw [h y (hy y List.mem_cons_self), bindP_some, ih _ fun z hz => hy z (List.mem_cons_of_mem _ hz)]
      cases q : g y with
      | none => simp [List.filterMap_cons, q]
      | some w => simp [List.filterMap_cons, q]
  rw [key xs [] fun y hy => hy, bindP_some]
  simp
theorem cbskey (s : CS) (ps : Pt) (hl : s.length ≤ 1000) : f_callbacks_key [encS s] ps = some (.tuple (s.map ckey), ps) := by
  have h1 : eLc (iOf (eVar 0)) (tName 1) bYes (eCall f_callback_key (aCons (eVar 1) aNil)) [1] (startD 2 [encS s]) ps = some (.list (s.map ckey), ps) := by
    rw [lc_enc (e := enc) (xs := s) (g := fun x => some (ckey x)) rfl hl fun x _ => ?_, fm_some]
    simp [lcStep, tName, bYes, eCall, aCons, aNil, eVar, wipeD, startD, bindP, cbkey x ps]
  show runF 2 g_callbacks_key [encS s] ps = _
  simp [runF, g_callbacks_key, sRet, eCB, aCons, aNil, h1, bindP, one, tupleD]
def skey (s : CS) : PyData := .tuple [.int s.length, .tuple (s.map ckey)]
def lkey (s : CS) : PyData := .tuple [.int s.length, .list (s.map ckey)]
theorem setkey (s : CS) (ps : Pt) (hl : s.length ≤ 1000) : f_set_key [encS s] ps = some (skey s, ps) := by
  show runF 1 g_set_key [encS s] ps = _
  have h1 : eCall f_callbacks_key (aCons (eVar 0) aNil) (startD 1 [encS s]) ps = some (.tuple (s.map ckey), ps) := by
    rw [eCall, aCons_one (x := encS s) (p1 := ps) rfl, bindP_some, cbskey s ps hl]
  have h2 : eCB (one lenD) (aCons (eVar 0) aNil) (startD 1 [encS s]) ps = some (.int s.length, ps) := by
    simp [eCB, aCons, aNil, eVar, startD, bindP, one, encS, lenD]
  unfold runF g_set_key
  rw [show sRet (eTup (aCons (eCB (one lenD) (aCons (eVar 0) aNil)) (aCons (eCall f_callbacks_key (aCons (eVar 0) aNil)) aNil))) (startD 1 [encS s]) ps = some (.rt (skey s), ps) by
    rw [sRet, eTup, aCons_two h2 h1]
    rfl]
theorem lamkey (s : CS) (ps : Pt) (hl : s.length ≤ 1000) : runE 2 g__law_least_l0 [encS s] ps = some (lkey s, ps) := by
  have h1 : eLc (iOf (eVar 0)) (tName 1) bYes (eCall f__law_place (aCons (eVar 1) aNil)) [1] (startD 2 [encS s]) ps = some (.list (s.map ckey), ps) := by
    rw [lc_enc (e := enc) (xs := s) (g := fun x => some (ckey x)) rfl hl fun x _ => ?_, fm_some]
    simp [lcStep, tName, bYes, eCall, aCons, aNil, eVar, wipeD, startD, bindP, lplace x ps]
  have h2 : eCB (one lenD) (aCons (eVar 0) aNil) (startD 2 [encS s]) ps = some (.int s.length, ps) := by
    simp [eCB, aCons, aNil, eVar, startD, bindP, one, encS, lenD]
  unfold runE g__law_least_l0
  rw [eTup, aCons_two h2 h1]
  rfl
def within (s t : CS) : Bool := s.all fun x => decide (x ∈ t)
theorem any_enc (t : CS) (x : CB) : (t.map enc).any (fun z => PyData.eqv z (enc x)) = decide (x ∈ t) := by
  induction t with
  | nil => simp
  | cons y r ih =>
    rw [List.map_cons, List.any_cons, ih, eqv_enc]
    by_cases h : y = x
    · simp [h]
    · have h' : ¬ x = y := fun z => h z.symm
      simp [h, h']
theorem inD_enc (x : CB) (t : CS) : inD false (enc x) (encS t) = some (.bool (decide (x ∈ t))) := by
  unfold inD
  show (if SeqAt.shaped (enc x) && SeqAt.shaped (encS t) then some (PyData.bool ((t.map enc).any fun z => PyData.eqv z (enc x))) else none) = _
  rw [sh_enc, sh_encS, any_enc]
  rfl
theorem bools_map {α : Type} (f : α → Bool) (xs : List α) : bools (xs.map fun x => PyData.bool (f x)) = some (xs.map f) := by
  induction xs with
  | nil => rfl
  | cons x r ih =>
    show (bools (r.map fun x => PyData.bool (f x))).map (f x :: ·) = _
    rw [ih]
    rfl
theorem iswithin (s t : CS) (ps : Pt) (hl : s.length ≤ 1000) : f_is_within [encS s, encS t] ps = some (.bool (within s t), ps) := by
  show runF 3 g_is_within [encS s, encS t] ps = _
  have h1 : eLc (iOf (eVar 0)) (tName 2) bYes (eOp (inD false) (eVar 2) (eVar 1)) [2] (startD 3 [encS s, encS t]) ps = some (.list (s.map fun x => .bool (decide (x ∈ t))), ps) := by
    rw [lc_enc (e := enc) (xs := s) (g := fun x => some (.bool (decide (x ∈ t)))) rfl hl fun x _ => ?_, fm_some]
    simp [lcStep, tName, bYes, eOp, eVar, wipeD, startD, bindP, inD_enc]
  unfold runF g_is_within
  simp only [sRet, eCB, aCons_one h1, bindP_some, one, allD, bools_map, Option.map_some]
  simp [within, List.all_map, Function.comp_def]
theorem lwithin (s t : CS) (ps : Pt) (hl : s.length ≤ 1000) : f__law_within [encS s, encS t] ps = some (.bool (within s t), ps) := iswithin s t ps hl
end K37

set_option Elab.async false
set_option linter.all false
set_option maxRecDepth 100000
set_option maxHeartbeats 1000000
/-! k37, the plain law: sorting by keys, each once. -/
namespace K37
open PySem L2 DL
local instance : TBL := ⟨[]⟩
/-! ### keys -/
theorem toks_ck (x y : CB) (l m : List (Int ⊕ List Nat)) (h : PySem.W.keyToks (ckey x) ++ l = PySem.W.keyToks (ckey y) ++ m) : x = y ∧ l = m := by
  have e1 : (Str.ofString "a").cps.toList = [97] := by decide +kernel
  have e2 : (Str.ofString "b").cps.toList = [98] := by decide +kernel
  have e3 : (Str.ofString "c").cps.toList = [99] := by decide +kernel
  have e4 : (Str.ofString "zz").cps.toList = [122, 122] := by decide +kernel
  cases x <;> cases y <;> simp [ckey, S, PySem.W.keyToks, PySem.W.keyToksAll, e1, e2, e3, e4] at h ⊢ <;> exact h
theorem toks_cks : ∀ (s t : CS) (l m : List (Int ⊕ List Nat)), PySem.W.keyToksAll (s.map ckey) ++ l = PySem.W.keyToksAll (t.map ckey) ++ m → s = t ∧ l = m
  | [], [], l, m, h => by simpa [PySem.W.keyToksAll] using h
  | [], y :: t, l, m, h => by simp [PySem.W.keyToksAll] at h
  | x :: s, [], l, m, h => by simp [PySem.W.keyToksAll] at h
  | x :: s, y :: t, l, m, h => by
    rw [List.map_cons, List.map_cons, PySem.W.keyToksAll, PySem.W.keyToksAll] at h
    rw [List.cons_append, List.cons_append, List.cons.injEq, List.append_assoc, List.append_assoc] at h
    have h1 := h.2
    obtain ⟨e1, h2⟩ := toks_ck x y _ _ h1
    obtain ⟨e2, h3⟩ := toks_cks s t _ _ h2
    exact ⟨by rw [e1, e2], h3⟩
def kt (s : CS) : List (Int ⊕ List Nat) := PySem.W.keyToks (skey s)
theorem kt_inj {s t : CS} (h : kt s = kt t) : s = t := by
  unfold kt skey at h
  simp only [PySem.W.keyToks, PySem.W.keyToksAll] at h
  have h1 := (List.cons.inj h).2
  have h2 := (List.cons.inj h1).2
  have h3 := (List.cons.inj h2).2
  exact (toks_cks s t _ _ h3).1
theorem kt_l (s : CS) : PySem.W.keyToks (lkey s) = kt s := by
  unfold kt skey lkey
  simp only [PySem.W.keyToks, PySem.W.keyToksAll]
/-- the order in which both sort -/
def le (s t : CS) : Bool := PySem.W.sortLe (PyProof.Rows.listOrd PyProof.Rows.itemOrd) false kt s t
theorem le_tot : PySem.W.TotalLe le := PySem.W.sortLe_total _ _ _
theorem le_anti {s t : CS} (h1 : le s t = true) (h2 : le t s = true) : s = t := by
  unfold le PySem.W.sortLe at h1 h2
  simp only [cond_false, Bool.not_eq_true'] at h1 h2
  exact kt_inj ((PyProof.Rows.listOrd PyProof.Rows.itemOrd).total _ _ h2 h1)
/-! ### keys are right for a sort -/
theorem alike_ck (x y : CB) : PySem.W.alike (ckey x) (ckey y) = true := by
  cases x <;> cases y <;> simp [ckey, S, PySem.W.alike, PySem.W.alikeAll]
theorem alike_cks : ∀ s t : CS, PySem.W.alikeAll (s.map ckey) (t.map ckey) = true
  | [], _ => by simp [PySem.W.alikeAll]
  | _ :: _, [] => by simp [PySem.W.alikeAll]
  | x :: s, y :: t => by simp only [List.map_cons, PySem.W.alikeAll, alike_ck, alike_cks s t, Bool.and_self]
theorem lay_ck (x : CB) : (ckey x).canLay0 = true := by cases x <;> simp only [ckey, S, PyData.canLay0, PyData.canLayAll0] <;> decide +kernel
theorem depth_ck (x : CB) : (ckey x).depth ≤ 2 := by cases x <;> simp [ckey, S, PyData.depth, PyData.depthAll]
theorem lay_cks : ∀ s : CS, PyData.canLayAll0 (s.map ckey) = true
  | [] => by simp [PyData.canLayAll0]
  | x :: s => by simp only [List.map_cons, PyData.canLayAll0, lay_ck x, lay_cks s, Bool.and_self]
theorem depth_cks : ∀ s : CS, PyData.depthAll (s.map ckey) ≤ 2
  | [] => by simp [PyData.depthAll]
  | x :: s => by
    have h1 := depth_ck x
    have h2 := depth_cks s
    simp only [List.map_cons, PyData.depthAll]
    omega
theorem keysOk_s (ss : List CS) : keysOk (ss.map skey) = true := by
  unfold keysOk
  rw [Bool.and_eq_true, Bool.and_eq_true]
  refine ⟨⟨?_, ?_⟩, ?_⟩
  · unfold allAlikeB
    simp [List.all_eq_true, skey, PySem.W.alike, PySem.W.alikeAll, alike_cks]
  · unfold sortableB
    rw [Bool.or_eq_true]
    left
    simp [List.all_eq_true, skey, isTup1]
  · rw [List.all_eq_true]
    intro k hk
    obtain ⟨s, _, rfl⟩ := List.mem_map.mp hk
    have := depth_cks s
    simp only [skey, PyData.canLay0, PyData.canLayAll0, lay_cks, PyData.depth, PyData.depthAll, Bool.and_eq_true, decide_eq_true_eq]
    refine ⟨by decide, by omega⟩
theorem keysOk_l (ss : List CS) : keysOk (ss.map lkey) = true := by
  unfold keysOk
  rw [Bool.and_eq_true, Bool.and_eq_true]
  refine ⟨⟨?_, ?_⟩, ?_⟩
  · unfold allAlikeB
    simp [List.all_eq_true, lkey, PySem.W.alike, PySem.W.alikeAll, alike_cks]
  · unfold sortableB
    rw [Bool.or_eq_true]
    left
    simp [List.all_eq_true, lkey, isTup1]
  · rw [List.all_eq_true]
    intro k hk
    obtain ⟨s, _, rfl⟩ := List.mem_map.mp hk
    have := depth_cks s
    simp only [lkey, PyData.canLay0, PyData.canLayAll0, lay_cks, PyData.depth, PyData.depthAll, Bool.and_eq_true, decide_eq_true_eq]
    refine ⟨by decide, by omega⟩
theorem keysGo_enc {f : List PyData → Pt → Option (PyData × Pt)} {k : CS → PyData} {ps : Pt} : ∀ ss : List CS, (∀ s ∈ ss, f [encS s] ps = some (k s, ps)) → keysGo f (ss.map encS) ps = some (ss.map k, ps)
  | [], _ => rfl
  | s :: ss, h => by
    rw [List.map_cons]
    unfold keysGo
    rw [h s List.mem_cons_self, bindP_some, keysGo_enc ss fun t ht => h t (List.mem_cons_of_mem _ ht), bindP_some]
    rfl
theorem sortBy_enc (k : CS → PyData) (hk : ∀ s, PySem.W.keyToks (k s) = kt s) (ss : List CS) : sortBy (ss.map k) (ss.map encS) = (ss.mergeSort le).map encS := by
  unfold sortBy
  have e : (ss.map k).zip (ss.map encS) = ss.map fun s => (k s, encS s) := by
    induction ss with
    | nil => rfl
    | cons x r ih => simp [ih]
  rw [e, ← PySem.W.sort_maps (r := le) (fun s => (k s, encS s)) fun a _ b _ => ?_, List.map_map]
  · rfl
  · unfold le PySem.W.dataLe PySem.W.sortLe
    simp only [hk]
theorem sortK {f : List PyData → Pt → Option (PyData × Pt)} {k : CS → PyData} {ps : Pt} {g : EG} {S0 : Sd} {p0 : Pt} (ss : List CS) (hg : g S0 p0 = some (.list (ss.map encS), ps)) (hl : ss.length ≤ 1000) (h : ∀ s ∈ ss, f [encS s] ps = some (k s, ps)) (hk : ∀ s, PySem.W.keyToks (k s) = kt s) (ok : keysOk (ss.map k) = true) :
    eSortK f g S0 p0 = some (.list ((ss.mergeSort le).map encS), ps) := by
  unfold eSortK
  rw [hg, bindP_some]
  dsimp only
  rw [if_pos (fits_of (by rw [List.length_map]; exact hl)), keysGo_enc ss h, bindP_some, if_pos ok, sortBy_enc k hk]
/-! ### each once -/
def nk : CB → NestedKey
  | .b => .text (Str.ofString "b")
  | .c => .text (Str.ofString "c")
  | .zz => .text (Str.ofString "zz")
  | .a0 => .tup [.text (Str.ofString "a"), .tup []]
  | .ab => .tup [.text (Str.ofString "a"), .tup [.text (Str.ofString "b")]]
  | .b0 => .tup [.text (Str.ofString "b"), .tup []]
  | .z0 => .tup [.text (Str.ofString "zz"), .tup []]
theorem nkey_enc (x : CB) : nkey (enc x) = some (nk x) := by cases x <;> simp [enc, S, nk, nkey, nkeys]
theorem nkeys_enc : ∀ s : CS, nkeys (s.map enc) = some (s.map nk)
  | [] => by simp [nkeys]
  | x :: s => by
    rw [List.map_cons, nkeys, nkey_enc, nkeys_enc s]
    rfl
theorem str_ne {x y : String} (h : (Str.ofString x == Str.ofString y) = false) : Str.ofString x ≠ Str.ofString y := ofS_ne h
theorem nk_inj {x y : CB} (h : nk x = nk y) : x = y := by
  have e1 : Str.ofString "a" ≠ Str.ofString "b" := by decide +kernel
  have e2 : Str.ofString "a" ≠ Str.ofString "zz" := by decide +kernel
  have e3 : Str.ofString "b" ≠ Str.ofString "zz" := by decide +kernel
  have e4 : Str.ofString "b" ≠ Str.ofString "c" := by decide +kernel
  have e5 : Str.ofString "c" ≠ Str.ofString "zz" := by decide +kernel
  cases x <;> cases y <;> simp [nk, e1, e2, e3, e4, e5, e1.symm, e2.symm, e3.symm, e4.symm, e5.symm] at h ⊢
def nks (s : CS) : NestedKey := .tup (s.map nk)
theorem nks_inj {s t : CS} (h : nks s = nks t) : s = t := by
  unfold nks at h
  have h1 : s.map nk = t.map nk := by
    injection h
  exact (List.map_inj_right fun _ _ => nk_inj).mp h1
theorem nkey_encS (s : CS) : nkey (encS s) = some (nks s) := by
  unfold encS nks
  rw [nkey, nkeys_enc]
  rfl
theorem depth_nks (s : CS) : (nks s).depth ≤ 8 := by
  have h1 : ∀ x : CB, (nk x).depth ≤ 2 := fun x => by cases x <;> simp [nk, NestedKey.depth, NestedKey.depthAll]
  have h2 : ∀ s : CS, NestedKey.depthAll (s.map nk) ≤ 2 := fun s => by
    induction s with
    | nil => simp [NestedKey.depthAll]
    | cons x r ih =>
      have := h1 x
      simp only [List.map_cons, NestedKey.depthAll]
      omega
  have := h2 s
  simp only [nks, NestedKey.depth]
  omega
/-- first comings -/
def uq : List CS → List CS → List CS
  | [], acc => acc
  | s :: ss, acc => uq ss (if s ∈ acc then acc else acc ++ [s])
theorem uqPut_enc (s : CS) (acc : List CS) : uqPut (nks s) (encS s) (acc.map fun t => (nks t, encS t)) = (if s ∈ acc then acc else acc ++ [s]).map fun t => (nks t, encS t) := by
  unfold uqPut
  have e : (acc.map fun t => (nks t, encS t)).any (fun p => decide (p.1 = nks s)) = decide (s ∈ acc) := by
    induction acc with
    | nil => simp
    | cons x r ih =>
      rw [List.map_cons, List.any_cons, ih]
      by_cases h : x = s
      · simp [h]
      · have h1 : ¬ nks x = nks s := fun z => h (nks_inj z)
        have h2 : ¬ s = x := fun z => h z.symm
        simp [h1, h2]
  rw [e]
  by_cases h : s ∈ acc
  · simp [h]
  · simp [h]
theorem uqGo_enc : ∀ (ss acc : List CS), uqGo (ss.map encS) (acc.map fun t => (nks t, encS t)) = some ((uq ss acc).map fun t => (nks t, encS t))
  | [], acc => rfl
  | s :: ss, acc => by
    rw [List.map_cons]
    unfold uqGo
    rw [nkey_encS]
    dsimp only
    have h1 : (decide ((nks s).depth ≤ 8) && isTupD (encS s) && decide ((encS s).canLay0 = true)) = true := by
      rw [decide_eq_true (depth_nks s), decide_eq_true (lay_encS s)]
      rfl
    rw [if_pos h1, uqPut_enc, uqGo_enc ss]
    rfl
theorem uniq_enc (x : PyData) (ss : List CS) (hx : items x = some (ss.map encS)) (hl : ss.length ≤ 1000) : uniqD x = some (.list ((uq ss []).map encS)) := by
  unfold uniqD
  rw [hx]
  dsimp only
  rw [if_pos (fits_of (by rw [List.length_map]; exact hl))]
  have := uqGo_enc ss []
  rw [List.map_nil] at this
  rw [this]
  simp [List.map_map, Function.comp_def]
theorem uq_mem : ∀ (ss acc : List CS) (t : CS), t ∈ uq ss acc ↔ t ∈ acc ∨ t ∈ ss
  | [], acc, t => by simp [uq]
  | s :: ss, acc, t => by
    unfold uq
    rw [uq_mem ss]
    by_cases h : s ∈ acc
    · rw [if_pos h]
      constructor
      · rintro (h1 | h1)
        · exact .inl h1
        · exact .inr (List.mem_cons_of_mem _ h1)
      · rintro (h1 | h1)
        · exact .inl h1
        · rcases List.mem_cons.mp h1 with rfl | h1
          · exact .inl h
          · exact .inr h1
    · rw [if_neg h, List.mem_append, List.mem_singleton, List.mem_cons]
      constructor
      · rintro ((h1 | h1) | h1)
        · exact .inl h1
        · exact .inr (.inl h1)
        · exact .inr (.inr h1)
      · rintro (h1 | h1 | h1)
        · exact .inl (.inl h1)
        · exact .inl (.inr h1)
        · exact .inr h1
theorem uq_nodup : ∀ (ss acc : List CS), acc.Nodup → (uq ss acc).Nodup
  | [], acc, h => h
  | s :: ss, acc, h => by
    unfold uq
    apply uq_nodup ss
    by_cases hs : s ∈ acc
    · rw [if_pos hs]
      exact h
    · rw [if_neg hs, List.nodup_append]
      refine ⟨h, by simp, fun a ha b hb z => ?_⟩
      rw [List.mem_singleton] at hb
      subst hb z
      exact hs ha
theorem uq_len : ∀ (ss acc : List CS), (uq ss acc).length ≤ acc.length + ss.length
  | [], acc => by simp [uq]
  | s :: ss, acc => by
    unfold uq
    have := uq_len ss (if s ∈ acc then acc else acc ++ [s])
    by_cases hs : s ∈ acc
    · rw [if_pos hs] at this ⊢
      rw [List.length_cons]
      omega
    · rw [if_neg hs, List.length_append] at this
      rw [if_neg hs, List.length_cons]
      simp at this
      omega
/-- sorted lists without doubles that have the same members are one -/
theorem one_of : ∀ {a b : List CS}, a.Pairwise (fun x y => le x y = true) → b.Pairwise (fun x y => le x y = true) → a.Nodup → b.Nodup → (∀ t, t ∈ a ↔ t ∈ b) → a = b
  | [], [], _, _, _, _, _ => rfl
  | [], y :: b, _, _, _, _, h => absurd ((h y).mpr List.mem_cons_self) (by simp)
  | x :: a, [], _, _, _, _, h => absurd ((h x).mp List.mem_cons_self) (by simp)
  | x :: a, y :: b, ha, hb, na, nb, h => by
    rw [List.pairwise_cons] at ha hb
    rw [List.nodup_cons] at na nb
    have rf : ∀ z : CS, le z z = true := fun z => by
      have := le_tot.total z z
      simpa using this
    have h1 : le x y = true := by
      rcases List.mem_cons.mp ((h y).mpr List.mem_cons_self) with e | e
      · rw [e]
        exact rf x
      · exact ha.1 y e
    have h2 : le y x = true := by
      rcases List.mem_cons.mp ((h x).mp List.mem_cons_self) with e | e
      · rw [e]
        exact rf y
      · exact hb.1 x e
    have e := le_anti h1 h2
    subst e
    rw [one_of ha.2 hb.2 na.2 nb.2 fun t => ?_]
    constructor
    · intro ht
      rcases List.mem_cons.mp ((h t).mp (List.mem_cons_of_mem _ ht)) with e | e
      · exact absurd (e ▸ ht) na.1
      · exact e
    · intro ht
      rcases List.mem_cons.mp ((h t).mpr (List.mem_cons_of_mem _ ht)) with e | e
      · exact absurd (e ▸ ht) nb.1
      · exact e
end K37

set_option Elab.async false
set_option linter.all false
set_option maxRecDepth 100000
set_option maxHeartbeats 1000000
/-! k37, the plain law: least sets, by the program and by the law's own words. -/
namespace K37
open PySem L2 DL
local instance : TBL := ⟨[]⟩
theorem sSeq_nx {a b : SG} {S S1 : Sd} {ps p : Pt} (h : a S ps = some (.nx S1, p)) : sSeq a b S ps = b S1 p := by
  unfold sSeq
  rw [h]
theorem sIf_no {t : BG} {a b : SG} {S : Sd} {ps p : Pt} (h : t S ps = some (false, p)) : sIf t a b S ps = b S p := by
  unfold sIf
  rw [h]
  rfl
theorem sIf_yes {t : BG} {a b : SG} {S : Sd} {ps p : Pt} (h : t S ps = some (true, p)) : sIf t a b S ps = a S p := by
  unfold sIf
  rw [h]
  rfl
/-- nothing else in it lies within s -/
def mn (ss : List CS) (s : CS) : Bool := !(ss.any fun t => decide (t ≠ s) && within t s)
def srt (ss : List CS) : List CS := (uq ss []).mergeSort le
def LS (ss : List CS) : List CS := (srt ss).filter (mn (srt ss))
theorem within_iff {s t : CS} : within s t = true ↔ ∀ x ∈ s, x ∈ t := by simp [within, List.all_eq_true]
theorem mn_iff {ss : List CS} {s : CS} : mn ss s = true ↔ ∀ t ∈ ss, within t s = true → t = s := by
  unfold mn
  rw [Bool.not_eq_true', List.any_eq_false]
  constructor
  · intro h t ht hw
    have := h t ht
    rw [hw] at this
    simpa using this
  · intro h t ht
    by_cases hw : within t s = true
    · simp [h t ht hw]
    · simp [hw]
theorem srt_mem {ss : List CS} {t : CS} : t ∈ srt ss ↔ t ∈ ss := by
  unfold srt
  rw [(List.mergeSort_perm _ _).mem_iff, uq_mem]
  simp
theorem srt_nodup (ss : List CS) : (srt ss).Nodup := (List.mergeSort_perm _ _).nodup_iff.mpr (uq_nodup ss [] List.nodup_nil)
theorem srt_pw (ss : List CS) : (srt ss).Pairwise fun x y => le x y = true := PySem.W.sort_pairwise le_tot _
theorem srt_len (ss : List CS) : (srt ss).length ≤ ss.length := by
  unfold srt
  rw [List.length_mergeSort]
  have := uq_len ss []
  simpa using this
theorem LS_mem {ss : List CS} {t : CS} : t ∈ LS ss ↔ t ∈ ss ∧ ∀ u ∈ ss, within u t = true → u = t := by
  unfold LS
  rw [List.mem_filter, srt_mem, mn_iff]
  simp only [srt_mem]
theorem LS_nodup (ss : List CS) : (LS ss).Nodup := (srt_nodup ss).filter _
theorem LS_pw (ss : List CS) : (LS ss).Pairwise fun x y => le x y = true := (srt_pw ss).filter _
theorem LS_len (ss : List CS) : (LS ss).length ≤ ss.length := Nat.le_trans (List.length_filter_le _ _) (srt_len ss)
theorem LS_congr {a b : List CS} (h : ∀ t, t ∈ a ↔ t ∈ b) : LS a = LS b := one_of (LS_pw a) (LS_pw b) (LS_nodup a) (LS_nodup b) fun t => by
  rw [LS_mem, LS_mem, h]
  simp only [h]
theorem LS_again (ss : List CS) : LS (LS ss) = LS ss := one_of (LS_pw _) (LS_pw _) (LS_nodup _) (LS_nodup _) fun t => by
  rw [LS_mem]
  exact ⟨fun h => h.1, fun h => ⟨h, fun u hu hw => (LS_mem.mp h).2 u (LS_mem.mp hu).1 hw⟩⟩
theorem LS_wider {ss : List CS} {p : CS} {z : CB} (hp : p ∈ LS ss) (hz : ∀ s ∈ ss, z ∉ s) : LS ((p ++ [z]) :: ss) = LS ss := one_of (LS_pw _) (LS_pw _) (LS_nodup _) (LS_nodup _) fun t => by
  rw [LS_mem, LS_mem]
  have hps : p ∈ ss := (LS_mem.mp hp).1
  constructor
  · rintro ⟨h1, h2⟩
    rcases List.mem_cons.mp h1 with rfl | h1
    · have := h2 p (List.mem_cons_of_mem _ hps) (within_iff.mpr fun x hx => List.mem_append_left _ hx)
      have := congrArg List.length this
      simp at this
    · exact ⟨h1, fun u hu => h2 u (List.mem_cons_of_mem _ hu)⟩
  · rintro ⟨h1, h2⟩
    refine ⟨List.mem_cons_of_mem _ h1, fun u hu hw => ?_⟩
    rcases List.mem_cons.mp hu with rfl | hu
    · exact absurd (within_iff.mp hw z (by simp)) (hz t h1)
    · exact h2 u hu hw
theorem LS_empty (ss : List CS) : LS (ss ++ [[]]) = [[]] := one_of (LS_pw _) (by simp) (LS_nodup _) (by simp) fun t => by
  rw [LS_mem, List.mem_singleton]
  constructor
  · rintro ⟨_, h2⟩
    exact (h2 [] (by simp) (within_iff.mpr fun x hx => absurd hx (by simp))).symm
  · rintro rfl
    refine ⟨by simp, fun u _ hw => ?_⟩
    cases u with
    | nil => rfl
    | cons x r => exact absurd (within_iff.mp hw x List.mem_cons_self) (by simp)
/-! ### the program's least_sets -/
theorem ne_enc (s t : CS) : neD (encS s) (encS t) = some (.bool (decide (s ≠ t))) := by
  unfold neD
  rw [sh_encS, sh_encS, eqv_encS]
  simp
theorem fm_if {α : Type} (p : α → Bool) (f : α → PyData) (xs : List α) : xs.filterMap (fun x => if p x then some (f x) else none) = (xs.filter p).map f := by
  induction xs with
  | nil => rfl
  | cons x r ih =>
    by_cases h : p x = true
    · simp [h, ih]
    · simp [h, ih]
theorem any_fil (M : List CS) (p q : CS → Bool) : ((M.filter p).map q).any id = M.any fun t => p t && q t := by
  induction M with
  | nil => rfl
  | cons x r ih =>
    by_cases h : p x = true
    · simp [h, ih] at ih ⊢
    · simp [h] at ih ⊢
def okS (ss : List CS) : Prop := ss.length ≤ 1000 ∧ ∀ s ∈ ss, s.length ≤ 1000
theorem least_sets (x : PyData) (ss : List CS) (ps : Pt) (hx : items x = some (ss.map encS)) (ok : okS ss) : f_least_sets [x] ps = some (.tuple ((LS ss).map encS), ps) := by
  have hU : (uq ss []).length ≤ 1000 := by
    have := uq_len ss []
    have h2 := ok.1
    simp at this
    omega
  have hM : (srt ss).length ≤ 1000 := Nat.le_trans (srt_len ss) ok.1
  have hin : ∀ s ∈ srt ss, s.length ≤ 1000 := fun s hs => ok.2 s (srt_mem.mp hs)
  have h1 : eSortK f_set_key (eUn uniqD (eVar 0)) (startD 4 [x]) ps = some (.list ((srt ss).map encS), ps) := by
    refine sortK (k := skey) (ps := ps) (uq ss []) ?_ hU (fun s hs => setkey s ps ?_) (fun s => rfl) (keysOk_s _)
    · simp only [eUn, eVar, startD, List.map_cons, List.map_nil, List.cons_append, List.getElem?_cons_zero, bindP_some, uniq_enc x ss hx ok.1, Option.map_some]
    · exact ok.2 s (by simpa using (uq_mem ss [] s).mp hs)
  show runF 4 g_least_sets [x] ps = _
  have h2 : sSet 1 (eSortK f_set_key (eUn uniqD (eVar 0))) (startD 4 [x]) ps = some (.nx [.dat x, .dat (.list ((srt ss).map encS)), .un, .un], ps) := by
    rw [sSet, h1]
    rfl
  unfold runF g_least_sets
  rw [sSeq_nx h2]
  have h3 : eLc (iOf (eVar 1)) (tName 2) (bNot (asB (eCB (one anyD) (aCons (eLc (iOf (eVar 1)) (tName 3) (asB (eOp neD (eVar 3) (eVar 2))) (eCall f_is_within (aCons (eVar 3) (aCons (eVar 2) aNil))) [3]) aNil)))) (eVar 2) [2] [.dat x, .dat (.list ((srt ss).map encS)), .un, .un] ps = some (.list ((LS ss).map encS), ps) := by
    rw [lc_enc (e := encS) (xs := srt ss) (g := fun s => if mn (srt ss) s then some (encS s) else none) rfl hM fun s hs => ?_, fm_if]
    · rfl
    · have h4 : eLc (iOf (eVar 1)) (tName 3) (asB (eOp neD (eVar 3) (eVar 2))) (eCall f_is_within (aCons (eVar 3) (aCons (eVar 2) aNil))) [3] [.dat x, .dat (.list ((srt ss).map encS)), .dat (encS s), .un] ps = some (.list (((srt ss).filter fun t => decide (t ≠ s)).map fun t => .bool (within t s)), ps) := by
        rw [lc_enc (e := encS) (xs := srt ss) (g := fun t => if decide (t ≠ s) then some (.bool (within t s)) else none) rfl hM fun t ht => ?_, fm_if]
        by_cases hts : t = s
        · subst hts
          simp [lcStep, tName, asB, eOp, eVar, wipeD, bindP, ne_enc]
        · simp [lcStep, tName, asB, eOp, eVar, wipeD, bindP, ne_enc, hts, eCall, aCons, aNil, iswithin t s ps (hin t ht)]
      have h5 : bNot (asB (eCB (one anyD) (aCons (eLc (iOf (eVar 1)) (tName 3) (asB (eOp neD (eVar 3) (eVar 2))) (eCall f_is_within (aCons (eVar 3) (aCons (eVar 2) aNil))) [3]) aNil))) [.dat x, .dat (.list ((srt ss).map encS)), .dat (encS s), .un] ps = some (mn (srt ss) s, ps) := by
        rw [bNot, asB, eCB, aCons_one h4]
        simp only [bindP_some, one, anyD, bools_map, Option.map_some, any_fil]
        rfl
      simp only [lcStep, tName, wipeD, List.set_cons_succ, List.set_cons_zero]
      rw [h5]
      by_cases hm : mn (srt ss) s = true
      · simp [hm, eVar, bindP]
      · simp [hm]
  rw [sRet, eCB, aCons_one h3]
  rfl
/-! ### the law's own -/
theorem any_encS (acc : List CS) (s : CS) : (acc.map encS).any (fun z => PyData.eqv z (encS s)) = decide (s ∈ acc) := by
  induction acc with
  | nil => simp
  | cons y r ih =>
    rw [List.map_cons, List.any_cons, ih, eqv_encS]
    by_cases h : y = s
    · simp [h]
    · have h' : ¬ s = y := fun z => h z.symm
      simp [h, h']
abbrev lbody : SG := sSeq (sSet 3 (eLc (iOf (eVar 0)) (tName 4) (bAnd (asB (eOp neD (eVar 4) (eVar 2))) (asB (eCall f__law_within (aCons (eVar 4) (aCons (eVar 2) aNil))))) (eVar 4) [4])) (sIf (bFrz 1 (bAnd (asB (eOp eqD (eVar 3) (eLst aNil))) (asB (eOp (inD true) (eVar 2) (eVar 1))))) (sApp 1 (eVar 2)) sNil)
theorem fil_nil (ss : List CS) (s : CS) : decide (ss.filter (fun t => decide (t ≠ s) && within t s) = []) = mn ss s := by
  unfold mn
  by_cases h : ss.filter (fun t => decide (t ≠ s) && within t s) = []
  · rw [decide_eq_true h]
    rw [List.filter_eq_nil_iff] at h
    symm
    rw [Bool.not_eq_true', List.any_eq_false]
    exact h
  · rw [decide_eq_false h]
    symm
    rw [Bool.not_eq_false']
    apply Decidable.byContradiction
    intro z
    rw [Bool.not_eq_true, List.any_eq_false] at z
    exact h (List.filter_eq_nil_iff.mpr z)
theorem lturn (ss acc : List CS) (s : CS) (a3 : SV) (ps : Pt) (ok : okS ss) (hl : acc.length ≤ 1000) : ∃ b3, lbody [.dat (.list (ss.map encS)), .own (acc.map encS), .dat (encS s), a3, .un, .un] ps = some (.nx [.dat (.list (ss.map encS)), .own ((if mn ss s && decide (s ∉ acc) then acc ++ [s] else acc).map encS), .dat (encS s), b3, .un, .un], ps) := by
  have h1 : eLc (iOf (eVar 0)) (tName 4) (bAnd (asB (eOp neD (eVar 4) (eVar 2))) (asB (eCall f__law_within (aCons (eVar 4) (aCons (eVar 2) aNil))))) (eVar 4) [4] [.dat (.list (ss.map encS)), .own (acc.map encS), .dat (encS s), a3, .un, .un] ps = some (.list ((ss.filter fun t => decide (t ≠ s) && within t s).map encS), ps) := by
    rw [lc_enc (e := encS) (xs := ss) (g := fun t => if decide (t ≠ s) && within t s then some (encS t) else none) rfl ok.1 fun t ht => ?_, fm_if]
    by_cases hts : t = s
    · subst hts
      simp [lcStep, tName, bAnd, asB, eOp, eVar, wipeD, bindP, ne_enc]
    · by_cases hw : within t s = true
      · simp [lcStep, tName, bAnd, asB, eOp, eVar, wipeD, bindP, ne_enc, hts, eCall, aCons, aNil, lwithin t s ps (ok.2 t ht), hw]
      · simp [lcStep, tName, bAnd, asB, eOp, eVar, wipeD, bindP, ne_enc, hts, eCall, aCons, aNil, lwithin t s ps (ok.2 t ht), hw]
  generalize hF : ss.filter (fun t => decide (t ≠ s) && within t s) = F at h1
  have h2 : sSet 3 (eLc (iOf (eVar 0)) (tName 4) (bAnd (asB (eOp neD (eVar 4) (eVar 2))) (asB (eCall f__law_within (aCons (eVar 4) (aCons (eVar 2) aNil))))) (eVar 4) [4]) [.dat (.list (ss.map encS)), .own (acc.map encS), .dat (encS s), a3, .un, .un] ps = some (.nx [.dat (.list (ss.map encS)), .own (acc.map encS), .dat (encS s), .dat (.list (F.map encS)), .un, .un], ps) := by
    rw [sSet, h1]
    rfl
  refine ⟨.dat (.list (F.map encS)), ?_⟩
  rw [lbody, sSeq_nx h2]
  have h3 : bFrz 1 (bAnd (asB (eOp eqD (eVar 3) (eLst aNil))) (asB (eOp (inD true) (eVar 2) (eVar 1)))) [.dat (.list (ss.map encS)), .own (acc.map encS), .dat (encS s), .dat (.list (F.map encS)), .un, .un] ps = some (mn ss s && decide (s ∉ acc), ps) := by
    have e1 : eqD (.list (F.map encS)) (.list []) = some (.bool (mn ss s)) := by
      unfold eqD
      have := eqv_L F []
      rw [List.map_nil] at this
      rw [sh_L, show SeqAt.shaped (.list []) = true from sh_L [], this, ← fil_nil ss s, hF]
      rfl
    have e2 : inD true (encS s) (.list (acc.map encS)) = some (.bool (decide (s ∉ acc))) := by
      unfold inD
      show (if SeqAt.shaped (encS s) && SeqAt.shaped (.list (acc.map encS)) then some (PyData.bool (!((acc.map encS).any fun z => PyData.eqv z (encS s)))) else none) = _
      rw [sh_encS, sh_L, any_encS]
      simp
    have e3 : ∀ (S0 : Sd) (p : Pt), eLst aNil S0 p = some (.list [], p) := fun _ _ => rfl
    show bAnd (asB (eOp eqD (eVar 3) (eLst aNil))) (asB (eOp (inD true) (eVar 2) (eVar 1))) [.dat (.list (ss.map encS)), .dat (.list (acc.map encS)), .dat (encS s), .dat (.list (F.map encS)), .un, .un] ps = _
    unfold bAnd asB eOp
    simp only [e3, eVar, List.getElem?_cons_succ, List.getElem?_cons_zero, bindP_some, e1, e2, Option.map_some]
    by_cases hm : mn ss s = true
    · simp [hm]
    · simp [hm]
  by_cases hb : (mn ss s && decide (s ∉ acc)) = true
  · rw [hb] at h3
    rw [sIf_yes h3, if_pos hb]
    show (if decide ((acc.map encS).length < 16777216) then _ else _) = _
    rw [if_pos (decide_eq_true (by rw [List.length_map]; omega))]
    simp [eVar, bindP]
  · have hb' : (mn ss s && decide (s ∉ acc)) = false := by
      cases q : (mn ss s && decide (s ∉ acc)) with
      | true => exact absurd q hb
      | false => rfl
    rw [hb'] at h3
    rw [sIf_no h3, if_neg hb]
    rfl
theorem lloop (ss : List CS) (ps : Pt) (ok : okS ss) : ∀ (ys acc : List CS) (a2 a3 : SV), acc.length + ys.length ≤ 1000 → ∃ b2 b3, forGo (tName 2) lbody (ys.map encS) [.dat (.list (ss.map encS)), .own (acc.map encS), a2, a3, .un, .un] ps = some (.nx [.dat (.list (ss.map encS)), .own ((uq (ys.filter (mn ss)) acc).map encS), b2, b3, .un, .un], ps)
  | [], acc, a2, a3, _ => ⟨a2, a3, rfl⟩
  | y :: ys, acc, a2, a3, hl => by
    rw [List.length_cons] at hl
    obtain ⟨c3, h1⟩ := lturn ss acc y a3 ps ok (by omega)
    rw [List.map_cons]
    unfold forGo
    show ∃ b2 b3, (match lbody [.dat (.list (ss.map encS)), .own (acc.map encS), .dat (encS y), a3, .un, .un] ps with
      | some (.nx S1, p) => forGo (tName 2) lbody (ys.map encS) S1 p
      | some (.ct S1, p) => forGo (tName 2) lbody (ys.map encS) S1 p
      | some (.bk S1, p) => some (.nx S1, p)
      | some (.rt d, p) => some (.rt d, p)
      | none => none) = _
    rw [h1]
    dsimp only
    by_cases hm : mn ss y = true
    · rw [List.filter_cons_of_pos hm]
      unfold uq
      by_cases hy : y ∈ acc
      · rw [if_pos hy]
        simp only [hm, hy, Bool.true_and, not_true, decide_false, Bool.false_eq_true, if_false]
        exact lloop ss ps ok ys acc _ _ (by omega)
      · rw [if_neg hy]
        simp only [hm, hy, Bool.true_and, not_false_eq_true, decide_true, if_true]
        exact lloop ss ps ok ys (acc ++ [y]) _ _ (by rw [List.length_append, List.length_singleton]; omega)
    · rw [List.filter_cons_of_neg hm]
      have hm' : mn ss y = false := by simpa using hm
      simp only [hm', Bool.false_and, Bool.false_eq_true, if_false]
      exact lloop ss ps ok ys acc _ _ (by omega)
theorem law_least (ss : List CS) (ps : Pt) (ok : okS ss) : f__law_least [.list (ss.map encS)] ps = some (.tuple ((LS ss).map encS), ps) := by
  show runF 6 g__law_least [.list (ss.map encS)] ps = _
  obtain ⟨b2, b3, h1⟩ := lloop ss ps ok ss [] .un .un (by have := ok.1; simpa using this)
  have h0 : sNew 1 (startD 6 [.list (ss.map encS)]) ps = some (.nx [.dat (.list (ss.map encS)), .own (([] : List CS).map encS), .un, .un, .un, .un], ps) := rfl
  have h1' : sFor (iOf (eVar 0)) (tName 2) lbody [.dat (.list (ss.map encS)), .own (([] : List CS).map encS), .un, .un, .un, .un] ps = some (.nx [.dat (.list (ss.map encS)), .own ((uq (ss.filter (mn ss)) []).map encS), b2, b3, .un, .un], ps) := h1
  unfold runF g__law_least
  rw [sSeq_nx h0, sSeq_nx h1']
  have hU : (uq (ss.filter (mn ss)) []).length ≤ 1000 := by
    have h1 := uq_len (ss.filter (mn ss)) []
    have h2 := ok.1
    have h3 := List.length_filter_le (mn ss) ss
    simp only [List.length_nil] at h1
    omega
  have h2 : eSortK (runE 2 g__law_least_l0) (eVar 1) [.dat (.list (ss.map encS)), .dat (.list ((uq (ss.filter (mn ss)) []).map encS)), b2, b3, .un, .un] ps = some (.list (((uq (ss.filter (mn ss)) []).mergeSort le).map encS), ps) := by
    refine sortK (k := lkey) (ps := ps) _ rfl hU (fun s hs => lamkey s ps ?_) kt_l (keysOk_l _)
    have : s ∈ ss.filter (mn ss) := by simpa using (uq_mem _ [] s).mp hs
    exact ok.2 s (List.mem_filter.mp this).1
  have e : (uq (ss.filter (mn ss)) []).mergeSort le = LS ss := one_of (PySem.W.sort_pairwise le_tot _) (LS_pw ss) ((List.mergeSort_perm _ _).nodup_iff.mpr (uq_nodup _ [] List.nodup_nil)) (LS_nodup ss) fun t => by
    rw [(List.mergeSort_perm _ _).mem_iff, uq_mem, LS_mem, List.mem_filter, mn_iff]
    simp
  show (match sRet (eCB (one tupleD) (aCons (eSortK (runE 2 g__law_least_l0) (eVar 1)) aNil)) [.dat (.list (ss.map encS)), .dat (.list ((uq (ss.filter (mn ss)) []).map encS)), b2, b3, .un, .un] ps with
    | some (.rt d, p) => some (d, p)
    | some (.nx _, p) => some (.none, p)
    | _ => none) = _
  rw [sRet, eCB, aCons_one h2, e]
  rfl
end K37

set_option Elab.async false
set_option linter.all false
set_option maxRecDepth 100000
set_option maxHeartbeats 2000000
/-! k37, the plain law: the draws and the law's turns. -/
namespace K37
open PySem L2 DL
local instance : TBL := ⟨[]⟩
def POk (ps : Pt) : Prop := 0 ≤ ps.2 ∧ ps.2 < 2147483648
theorem draw_ok {m : Int} {ps : Pt} (h : POk ps) (h0 : 0 < m) (h1 : m < 1073741824) : ∃ v, drawF [potD, .int m] ps = some (.int v, drawS m ps) ∧ 0 ≤ v ∧ v < m ∧ POk (drawS m ps) := by
  refine ⟨drawV m ps, ?_, ?_, ?_, ?_⟩
  · show (if isPot potD && drawOk m ps then some (PyData.int (drawV m ps), drawS m ps) else none) = _
    have e : (isPot potD && drawOk m ps) = true := by
      unfold drawOk
      rw [decide_eq_true h0, decide_eq_true h1, decide_eq_true h.1, decide_eq_true h.2]
      rfl
    rw [if_pos e]
  · unfold drawV
    split <;> exact Int.emod_nonneg _ (by omega)
  · unfold drawV
    split <;> exact Int.emod_lt_of_pos _ h0
  · unfold drawS POk
    split
    · exact h
    · refine ⟨Int.emod_nonneg _ (by decide), ?_⟩
      have : (ps.2 * 39373 + 12227) % 2147483629 < 2147483629 := Int.emod_lt_of_pos _ (by decide)
      show (ps.2 * 39373 + 12227) % 2147483629 < 2147483648
      omega
theorem atI_ok {α : Type} {xs : List α} {i : Int} (h0 : 0 ≤ i) (h1 : i < xs.length) : ∃ x ∈ xs, atI xs i = some x := by
  have hl : i.toNat < xs.length := by omega
  refine ⟨xs[i.toNat], List.getElem_mem hl, ?_⟩
  unfold atI ixN
  rw [if_pos h0, if_pos h1]
  simp [hl]
theorem pick_ok {x : PyData} {ds : List PyData} {ps : Pt} (hx : x = .list ds ∨ x = .tuple ds) (h : POk ps) (h0 : 0 < ds.length) (h1 : ds.length ≤ 1000) : ∃ d ∈ ds, ∃ p', f__law_pick [potD, x] ps = some (d, p') ∧ POk p' := by
  obtain ⟨v, e, v0, v1, ok⟩ := draw_ok (m := ds.length) h (by omega) (by omega)
  obtain ⟨d, hd, e2⟩ := atI_ok (xs := ds) v0 v1
  refine ⟨d, hd, _, ?_, ok⟩
  show runF 2 g__law_pick [potD, x] ps = _
  have el : lenD x = some (.int ds.length) := by rcases hx with rfl | rfl <;> rfl
  have ei : ixD x (.int v) = some d := by rcases hx with rfl | rfl <;> exact e2
  simp [runF, g__law_pick, sRet, eOp, eVar, startD, eCall, aCons, aNil, eCB, one, el, bindP, e, ei]
/-! ### the pot -/
theorem log2_le {n k : Nat} (h : n < 2 ^ k) (hk : 0 < k) : n.log2 < k := by
  by_cases hn : n = 0
  · subst hn
    simpa using hk
  · exact (Nat.log2_lt hn).mpr h
theorem mul_ok {i j : Int} (hi : i.natAbs < 2 ^ 40) (hj : j.natAbs < 2 ^ 40) : mulI (.int i) (.int j) = some (.int (i * j)) := by
  show (if decide (i.natAbs.log2 + j.natAbs.log2 < 1000000) then _ else _) = _
  have h1 := log2_le hi (by decide)
  have h2 := log2_le hj (by decide)
  rw [if_pos (decide_eq_true (by omega))]
theorem add_ii (i j : Int) : addD (.int i) (.int j) = some (.int (i + j)) := rfl
theorem pot_ok (ns : List Int) (k : Nat) (ps : Pt) (hk : k ≤ 63) : ∃ a b, f__law_pot [.list (ns.map .int), .int k] ps = some ([.int a, .int b], ps) ∧ POk (a, b) := by
  have hc : ∃ c : Int, eIf (asB (eOp ltI (eVar 1) (eCB (one lenD) (aCons (eVar 0) aNil)))) (eCB (one absD) (aCons (eOp ixD (eVar 0) (eVar 1)) aNil)) (eOp addD (eOp mulI (eC (.int 7)) (eVar 1)) (eC (.int 3))) [.dat (.list (ns.map .int)), .dat (.int k), .un] ps = some (.int c, ps) := by
    have e1 : asB (eOp ltI (eVar 1) (eCB (one lenD) (aCons (eVar 0) aNil))) [.dat (.list (ns.map .int)), .dat (.int k), .un] ps = some (decide ((k : Int) < (ns.length : Int)), ps) := by
      simp [asB, eOp, eVar, eCB, aCons, aNil, one, lenD, bindP, ltI, cmpI, onI2]
    by_cases hl : (k : Int) < (ns.length : Int)
    · obtain ⟨d, hd, e2⟩ := atI_ok (xs := ns.map PyData.int) (i := (k : Int)) (by omega) (by rw [List.length_map]; exact hl)
      obtain ⟨z, _, rfl⟩ := List.mem_map.mp hd
      refine ⟨if z < 0 then -z else z, ?_⟩
      unfold eIf
      rw [e1, bindP_some, if_pos (decide_eq_true hl)]
      have e3 : ixD (.list (ns.map .int)) (.int k) = some (.int z) := e2
      simp [eCB, aCons, aNil, eOp, eVar, bindP, e3, one, absD]
    · refine ⟨7 * k + 3, ?_⟩
      unfold eIf
      rw [e1, bindP_some, if_neg (by simpa using hl)]
      simp [eOp, eC, eVar, bindP, mul_ok (i := 7) (j := (k : Int)) (by decide) (by omega), add_ii]
  obtain ⟨c, hc⟩ := hc
  have h0 : 0 ≤ c % 2147483629 := Int.emod_nonneg _ (by decide)
  have h1 : c % 2147483629 < 2147483629 := Int.emod_lt_of_pos _ (by decide)
  refine ⟨if c - 1000000000000000000 > 0 then c - 1000000000000000000 else 0, (c % 2147483629 * 48271 + 60029 * k + 31) % 2147483647, ?_, Int.emod_nonneg _ (by decide), ?_⟩
  · unfold f__law_pot DL.runN sSet
    rw [show startD 3 [.list (ns.map .int), .int k] = [.dat (.list (ns.map .int)), .dat (.int k), .un] from rfl, hc]
    have p1 : powI (.int 10) (.int 18) = some (.int 1000000000000000000) := by rfl
    have s1 : subI (.int c) (.int 1000000000000000000) = some (.int (c - 1000000000000000000)) := rfl
    have m1 : modI (.int c) (.int 2147483629) = some (.int (c % 2147483629)) := rfl
    have m2 : mulI (.int (c % 2147483629)) (.int 48271) = some (.int (c % 2147483629 * 48271)) := mul_ok (by omega) (by decide)
    have m3 : mulI (.int 60029) (.int k) = some (.int (60029 * k)) := mul_ok (by decide) (by omega)
    have m4 : modI (.int (c % 2147483629 * 48271 + 60029 * k + 31)) (.int 2147483647) = some (.int ((c % 2147483629 * 48271 + 60029 * k + 31) % 2147483647)) := rfl
    simp [bindP, aCons, aNil, eCB, eOp, eC, eVar, p1, s1, m1, m2, m3, m4, max2, one, intD, add_ii, fitsL]
  · show (c % 2147483629 * 48271 + 60029 * k + 31) % 2147483647 < 2147483648
    have : (c % 2147483629 * 48271 + 60029 * k + 31) % 2147483647 < 2147483647 := Int.emod_lt_of_pos _ (by decide)
    omega
/-! ### a turn -/
abbrev backs : CS := [.b, .c, .zz, .a0, .ab, .b0]
theorem lc_sub {it : AG} {t : Tgt} {test : BG} {elt : EG} {vs : List Nat} {S0 : Sd} {ps : Pt} {xs : CS} (hi : it S0 ps = some (xs.map enc, ps)) (hp : POk ps) (hl : xs.length ≤ 1000) (h : ∀ x ∈ xs, ∀ p, POk p → ∃ (b : Bool) (p' : Pt), POk p' ∧ lcStep t test elt (wipeD S0 vs) (enc x) p = some (if b then some (enc x) else none, p')) :
    ∃ (ys : CS) (p' : Pt), POk p' ∧ ys.Sublist xs ∧ eLc it t test elt vs S0 ps = some (.list (ys.map enc), p') := by
  unfold eLc
  rw [hi, bindP_some, if_pos (fits_of (by rw [List.length_map]; exact hl))]
  have key : ∀ (ys acc : CS) (p : Pt), POk p → (∀ y ∈ ys, y ∈ xs) → ∃ (zs : CS) (p' : Pt), POk p' ∧ zs.Sublist ys ∧ lcGo (lcStep t test elt (wipeD S0 vs)) (ys.map enc) p (acc.map enc) = some ((acc ++ zs).map enc, p') := by
    intro ys
    induction ys with
    | nil => exact fun acc p hp _ => ⟨[], p, hp, List.Sublist.refl _, by simp [lcGo]⟩
    | cons y r ih =>
      intro acc p hp hy
      obtain ⟨b, p1, hp1, e1⟩ := h y (hy y List.mem_cons_self) p hp
      rw [List.map_cons]
      unfold lcGo
      rw [e1, bindP_some]
      cases b with
      | true =>
        obtain ⟨zs, p2, hp2, hz, e2⟩ := ih (acc ++ [y]) p1 hp1 fun z hz => hy z (List.mem_cons_of_mem _ hz)
        refine ⟨y :: zs, p2, hp2, hz.cons_cons y, ?_⟩
        rw [List.map_append, List.append_assoc] at e2
        exact e2
      | false =>
        obtain ⟨zs, p2, hp2, hz, e2⟩ := ih acc p1 hp1 fun z hz => hy z (List.mem_cons_of_mem _ hz)
        exact ⟨zs, p2, hp2, hz.cons y, e2⟩
  obtain ⟨zs, p', hp', hz, e⟩ := key xs [] ps hp fun y hy => hy
  refine ⟨zs, p', hp', hz, ?_⟩
  rw [List.map_nil] at e
  rw [e]
  rfl
abbrev abody : SG := sApp 5 (eCB (one tupleD) (aCons (eLc (iOf (eVar 3)) (tName 10) (asB (eOp eqD (eCB (one intD) (aCons (eCall f__law_draw (aCons (eVar 2) (aCons (eVar 4) aNil))) aNil)) (eC (.int 0)))) (eVar 10) [10]) aNil))
theorem sh_int (i : Int) : SeqAt.shaped (.int i) = true := shp (by simp [PyData.canLay0]) (by simp [PyData.depth])
theorem aturn (x0 x1 : SV) (u : Int) (acc : List CS) (a6 a7 a8 a9 a10 : SV) (ps : Pt) (hp : POk ps) (h0 : 0 < u) (h1 : u < 10) (hl : acc.length ≤ 1000) :
    ∃ (s : CS) (p' : Pt), POk p' ∧ s.Sublist backs ∧ abody [x0, x1, .dat potD, .dat (.list (backs.map enc)), .dat (.int u), .own (acc.map encS), a6, a7, a8, a9, a10] ps = some (.nx [x0, x1, .dat potD, .dat (.list (backs.map enc)), .dat (.int u), .own ((acc ++ [s]).map encS), a6, a7, a8, a9, a10], p') := by
  have h2 : ∃ (ys : CS) (p' : Pt), POk p' ∧ ys.Sublist backs ∧ eLc (iOf (eVar 3)) (tName 10) (asB (eOp eqD (eCB (one intD) (aCons (eCall f__law_draw (aCons (eVar 2) (aCons (eVar 4) aNil))) aNil)) (eC (.int 0)))) (eVar 10) [10] [x0, x1, .dat potD, .dat (.list (backs.map enc)), .dat (.int u), .own (acc.map encS), a6, a7, a8, a9, a10] ps = some (.list (ys.map enc), p') := by
    refine lc_sub (xs := backs) rfl hp (by decide) fun x _ p hp => ?_
    obtain ⟨v, e, v0, v1, ok⟩ := draw_ok (m := u) hp h0 (by omega)
    refine ⟨decide (v = 0), drawS u p, ok, ?_⟩
    have e2 : eqD (.int v) (.int 0) = some (.bool (decide (v = 0))) := by
      unfold eqD
      rw [sh_int, sh_int]
      simp only [PyData.eqv, Bool.and_self, if_true]
      by_cases hv : v = 0 <;> simp [hv]
    by_cases hv : v = 0
    · have e3 : eqD (.int v) (.int 0) = some (.bool true) := by rw [e2, decide_eq_true hv]
      simp only [decide_eq_true hv]
      simp [lcStep, tName, wipeD, asB, eOp, eCB, aCons, aNil, eCall, eVar, eC, bindP, e, one, intD, e3]
    · simp [lcStep, tName, wipeD, asB, eOp, eCB, aCons, aNil, eCall, eVar, eC, bindP, e, one, intD, e2, hv]
  obtain ⟨s, p', hp', hs, e⟩ := h2
  refine ⟨s, p', hp', hs, ?_⟩
  show (if decide ((acc.map encS).length < 16777216) then _ else _) = _
  rw [if_pos (decide_eq_true (by rw [List.length_map]; omega)), eCB, aCons_one e]
  simp [bindP, one, tupleD, encS]
theorem aloop (x0 x1 : SV) (u : Int) (a7 a8 a9 a10 : SV) (h0 : 0 < u) (h1 : u < 10) : ∀ (ds : List PyData) (acc : List CS) (a6 : SV) (ps : Pt), POk ps → acc.length + ds.length ≤ 1000 → (∀ s ∈ acc, s.Sublist backs) →
    ∃ (ss : List CS) (b6 : SV) (p' : Pt), POk p' ∧ ss.length = acc.length + ds.length ∧ (∀ s ∈ ss, s.Sublist backs) ∧ forGo (tName 6) abody ds [x0, x1, .dat potD, .dat (.list (backs.map enc)), .dat (.int u), .own (acc.map encS), a6, a7, a8, a9, a10] ps = some (.nx [x0, x1, .dat potD, .dat (.list (backs.map enc)), .dat (.int u), .own (ss.map encS), b6, a7, a8, a9, a10], p')
  | [], acc, a6, ps, hp, _, hs => ⟨acc, a6, ps, hp, rfl, hs, rfl⟩
  | d :: ds, acc, a6, ps, hp, hl, hs => by
    rw [List.length_cons] at hl
    obtain ⟨s, p1, hp1, hs1, e1⟩ := aturn x0 x1 u acc (.dat d) a7 a8 a9 a10 ps hp h0 h1 (by omega)
    obtain ⟨ss, b6, p2, hp2, hl2, hs2, e2⟩ := aloop x0 x1 u a7 a8 a9 a10 h0 h1 ds (acc ++ [s]) (.dat d) p1 hp1 (by rw [List.length_append, List.length_singleton]; omega) fun t ht => by
      rcases List.mem_append.mp ht with ht | ht
      · exact hs t ht
      · rw [List.mem_singleton] at ht
        rw [ht]
        exact hs1
    refine ⟨ss, b6, p2, hp2, by rw [hl2, List.length_append, List.length_singleton, List.length_cons]; omega, hs2, ?_⟩
    unfold forGo
    show (match abody [x0, x1, .dat potD, .dat (.list (backs.map enc)), .dat (.int u), .own (acc.map encS), .dat d, a7, a8, a9, a10] ps with
      | some (.nx S1, p) => forGo (tName 6) abody ds S1 p
      | some (.ct S1, p) => forGo (tName 6) abody ds S1 p
      | some (.bk S1, p) => some (.nx S1, p)
      | some (.rt d, p) => some (.rt d, p)
      | none => none) = _
    rw [e1]
    exact e2
theorem ne_T (s t : List CS) : neD (.tuple (s.map encS)) (.tuple (t.map encS)) = some (.bool (decide (s ≠ t))) := by
  unfold neD
  rw [sh_T, sh_T, eqv_T]
  simp
theorem ls_same {g h : EG} {S0 : Sd} {ps : Pt} {x : PyData} {ts M : List CS} (hg : g S0 ps = some (x, ps)) (hx : items x = some (ts.map encS)) (ok : okS ts) (hM : LS ts = M) (hh : h S0 ps = some (.tuple (M.map encS), ps)) : asB (eOp neD (eCall f_least_sets (aCons g aNil)) h) S0 ps = some (false, ps) := by
  have e : eCall f_least_sets (aCons g aNil) S0 ps = some (.tuple (M.map encS), ps) := by
    rw [eCall, aCons_one hg, bindP_some, least_sets x ts ps hx ok, hM]
  unfold asB eOp
  rw [e, bindP_some, hh, bindP_some, ne_T]
  simp
theorem bOr_no {a b : BG} {S0 : Sd} {p p1 p2 : Pt} (ha : a S0 p = some (false, p1)) (hb : b S0 p1 = some (false, p2)) : bOr a b S0 p = some (false, p2) := by
  unfold bOr
  rw [ha]
  exact hb
theorem add_L (a b : List PyData) (h : a.length + b.length ≤ 16777216) : addD (.list a) (.list b) = some (.list (a ++ b)) := by
  show orD addI (orD addS (orD addL addT)) _ _ = _
  simp [orD, addI, onI2, addS, addL, h]
theorem add_T (a b : List PyData) (h : a.length + b.length ≤ 16777216) : addD (.tuple a) (.tuple b) = some (.tuple (a ++ b)) := by
  show orD addI (orD addS (orD addL addT)) _ _ = _
  simp [orD, addI, onI2, addS, addL, addT, h]
theorem cut3 (ss : List CS) : cutL (ss.map encS) none (some 3) = (ss.take (min 3 ss.length)).map encS := by
  unfold cutL
  rw [show HT.sIx (ss.map encS).length 0 none = 0 from rfl, show HT.sIx (ss.map encS).length (ss.map encS).length (some 3) = min 3 (ss.map encS).length from rfl]
  simp [List.map_take]
end K37

set_option Elab.async false
set_option linter.all false
set_option maxRecDepth 100000
set_option maxHeartbeats 2000000
/-! k37, the plain law: a whole turn, the whole law. -/
namespace K37
open PySem L2 DL
local instance : TBL := ⟨[]⟩
abbrev chk1 : BG := bOr (asB (eOp neD (eCall f_least_sets (aCons (eVar 5) aNil)) (eVar 7))) (bOr (asB (eOp neD (eCall f_least_sets (aCons (eCB (one tupleD) (aCons (eOp addD (eUn revD (eVar 5)) (eSl (eVar 5) oNone (oSome (eC (.int 3))))) aNil)) aNil)) (eVar 7))) (asB (eOp neD (eCall f_least_sets (aCons (eVar 7) aNil)) (eVar 7))))
abbrev chk3 : BG := bOr (asB (eOp neD (eCall f_least_sets (aCons (eOp addD (eLst (aCons (eVar 9) aNil)) (eVar 5)) aNil)) (eVar 7))) (asB (eOp neD (eCall f_least_sets (aCons (eOp addD (eVar 5) (eLst (aCons (eTup aNil) aNil))) aNil)) (eTup (aCons (eTup aNil) aNil))))
abbrev wid : EG := eOp addD (eCall f__law_pick (aCons (eVar 2) (aCons (eVar 7) aNil))) (eTup (aCons (eTup (aCons (eC (.str (Str.ofString "zz"))) (aCons (eTup aNil) aNil))) aNil))
abbrev cbody : SG := sSeq (sIf chk1 (sRet (eC (.bool false))) sNil) (sSeq (sIf (asB (eOp neD (eVar 5) (eVar 8))) (sRet (eC (.bool false))) sNil) (sIf (asB (eOp neD (eVar 7) (eTup aNil))) (sSeq (sSet 9 wid) (sIf chk3 (sRet (eC (.bool false))) sNil)) sNil))
abbrev pbody : SG := sPar 7 8 (aCons (eCall f__law_least (aCons (eVar 5) aNil)) (aCons (eCB (one listD) (aCons (eVar 5) aNil)) aNil))
abbrev eBacks : EG := eLst (aCons (eC (.str (Str.ofString "b"))) (aCons (eC (.str (Str.ofString "c"))) (aCons (eC (.str (Str.ofString "zz"))) (aCons (eTup (aCons (eC (.str (Str.ofString "a"))) (aCons (eTup aNil) aNil))) (aCons (eTup (aCons (eC (.str (Str.ofString "a"))) (aCons (eTup (aCons (eC (.str (Str.ofString "b"))) aNil)) aNil))) (aCons (eTup (aCons (eC (.str (Str.ofString "b"))) (aCons (eTup aNil) aNil))) aNil))))))
abbrev eUp : EG := eCall f__law_pick (aCons (eVar 2) (aCons (eLst (aCons (eC (.int 2)) (aCons (eC (.int 2)) (aCons (eC (.int 3)) aNil)))) aNil))
abbrev tbody : SG := sSeq (sSet 3 eBacks) (sSeq (sSet 4 eUp) (sSeq (sNew 5) (sSeq (sFor (iRange (aCons (eCall f__law_draw (aCons (eVar 2) (aCons (eC (.int 10)) aNil))) aNil)) (tName 6) abody) (sFrz 5 (sSeq pbody cbody)))))
theorem g_law_is : g_law = sSeq (sFor (iRange (aCons (eCB max2 (aCons (eC (.int 1)) (aCons (eCB min2 (aCons (eC (.int 8)) (aCons (eCB (one lenD) (aCons (eVar 0) aNil)) aNil))) aNil))) aNil)) (tName 1) (sPot 2 f__law_pot (aCons (eVar 0) (aCons (eVar 1) aNil)) tbody)) (sRet (eC (.bool true))) := rfl
/-- what the checks find -/
theorem checks (x0 x1 x3 x4 x6 x9 x10 : SV) (ss : List CS) (ps : Pt) (hp : POk ps) (hl : ss.length ≤ 100) (hs : ∀ s ∈ ss, s.Sublist backs) :
    ∃ (y9 : SV) (p' : Pt), POk p' ∧ cbody [x0, x1, .dat potD, x3, x4, .dat (.list (ss.map encS)), x6, .dat (.tuple ((LS ss).map encS)), .dat (.list (ss.map encS)), x9, x10] ps = some (.nx [x0, x1, .dat potD, x3, x4, .dat (.list (ss.map encS)), x6, .dat (.tuple ((LS ss).map encS)), .dat (.list (ss.map encS)), y9, x10], p') := by
  have hs6 : ∀ s ∈ ss, s.length ≤ 6 := fun s h => (hs s h).length_le
  have ok : okS ss := ⟨by omega, fun s h => by have := hs6 s h; omega⟩
  have okL : okS (LS ss) := ⟨Nat.le_trans (LS_len ss) ok.1, fun s h => ok.2 s (LS_mem.mp h).1⟩
  have c1 : chk1 [x0, x1, .dat potD, x3, x4, .dat (.list (ss.map encS)), x6, .dat (.tuple ((LS ss).map encS)), .dat (.list (ss.map encS)), x9, x10] ps = some (false, ps) := by
    refine bOr_no (ls_same (ts := ss) (M := LS ss) rfl rfl ok rfl rfl) (bOr_no (ls_same (x := .tuple ((ss.reverse ++ ss.take (min 3 ss.length)).map encS)) (ts := ss.reverse ++ ss.take (min 3 ss.length)) (M := LS ss) ?_ rfl ?_ ?_ rfl) (ls_same (x := .tuple ((LS ss).map encS)) (ts := LS ss) (M := LS ss) rfl rfl okL (LS_again ss) rfl))
    · have e1 : addD (.list (ss.map encS).reverse) (.list (cutL (ss.map encS) none (some 3))) = some (.list ((ss.reverse ++ ss.take (min 3 ss.length)).map encS)) := by
        rw [cut3, add_L _ _ (by simp; omega), List.map_append, List.map_reverse]
      simp [eCB, aCons, aNil, eOp, eUn, eVar, revD, eSl, oNone, oSome, eC, slD, bindP, one, tupleD, e1]
    · refine ⟨by simp; omega, fun s h => ok.2 s ?_⟩
      rcases List.mem_append.mp h with h | h
      · exact List.mem_reverse.mp h
      · exact List.mem_of_mem_take h
    · refine LS_congr fun t => ?_
      rw [List.mem_append, List.mem_reverse]
      exact ⟨fun h => h.elim id List.mem_of_mem_take, .inl⟩
  have c2 : asB (eOp neD (eVar 5) (eVar 8)) [x0, x1, .dat potD, x3, x4, .dat (.list (ss.map encS)), x6, .dat (.tuple ((LS ss).map encS)), .dat (.list (ss.map encS)), x9, x10] ps = some (false, ps) := by
    have e : neD (.list (ss.map encS)) (.list (ss.map encS)) = some (.bool false) := by
      unfold neD
      rw [sh_L, eqv_L]
      simp
    simp [asB, eOp, eVar, bindP, e]
  have c3 : asB (eOp neD (eVar 7) (eTup aNil)) [x0, x1, .dat potD, x3, x4, .dat (.list (ss.map encS)), x6, .dat (.tuple ((LS ss).map encS)), .dat (.list (ss.map encS)), x9, x10] ps = some (decide (LS ss ≠ []), ps) := by
    have e := ne_T (LS ss) []
    rw [List.map_nil] at e
    have e3 : ∀ (S0 : Sd) (p : Pt), eTup aNil S0 p = some (.tuple [], p) := fun _ _ => rfl
    unfold asB eOp
    simp only [e3, eVar, List.getElem?_cons_succ, List.getElem?_cons_zero, bindP_some, e, Option.map_some]
  have b1 : ∀ (b : SG), sSeq (sIf chk1 (sRet (eC (.bool false))) sNil) b [x0, x1, .dat potD, x3, x4, .dat (.list (ss.map encS)), x6, .dat (.tuple ((LS ss).map encS)), .dat (.list (ss.map encS)), x9, x10] ps = b [x0, x1, .dat potD, x3, x4, .dat (.list (ss.map encS)), x6, .dat (.tuple ((LS ss).map encS)), .dat (.list (ss.map encS)), x9, x10] ps := fun b => sSeq_nx (by rw [sIf_no c1]; rfl)
  have b2 : ∀ (b : SG), sSeq (sIf (asB (eOp neD (eVar 5) (eVar 8))) (sRet (eC (.bool false))) sNil) b [x0, x1, .dat potD, x3, x4, .dat (.list (ss.map encS)), x6, .dat (.tuple ((LS ss).map encS)), .dat (.list (ss.map encS)), x9, x10] ps = b [x0, x1, .dat potD, x3, x4, .dat (.list (ss.map encS)), x6, .dat (.tuple ((LS ss).map encS)), .dat (.list (ss.map encS)), x9, x10] ps := fun b => sSeq_nx (by rw [sIf_no c2]; rfl)
  unfold cbody
  simp only [b1, b2]
  by_cases hn : LS ss = []
  · rw [sIf_no (p := ps) (by rw [c3]; simp [hn])]
    exact ⟨x9, ps, hp, rfl⟩
  · rw [sIf_yes (p := ps) (by rw [c3]; simp [hn])]
    have hpos : 0 < (LS ss).length := by
      cases q : LS ss with
      | nil => exact absurd q hn
      | cons a r => simp
    obtain ⟨d, hd, p1, e1, hp1⟩ := pick_ok (x := .tuple ((LS ss).map encS)) (ds := (LS ss).map encS) (.inr rfl) hp (by rw [List.length_map]; exact hpos) (by rw [List.length_map]; exact okL.1)
    obtain ⟨q, hq, rfl⟩ := List.mem_map.mp hd
    have hq6 : q.length ≤ 6 := hs6 q (LS_mem.mp hq).1
    have e2 : wid [x0, x1, .dat potD, x3, x4, .dat (.list (ss.map encS)), x6, .dat (.tuple ((LS ss).map encS)), .dat (.list (ss.map encS)), x9, x10] ps = some (encS (q ++ [.z0]), p1) := by
      have e3 : ∀ (S0 : Sd) (p : Pt), eTup (aCons (eTup (aCons (eC (.str (Str.ofString "zz"))) (aCons (eTup aNil) aNil))) aNil) S0 p = some (.tuple [enc .z0], p) := fun _ _ => rfl
      have e4 : addD (encS q) (.tuple [enc .z0]) = some (encS (q ++ [.z0])) := by
        unfold encS
        rw [add_T _ _ (by simp; omega), List.map_append]
        rfl
      have e5 : eCall f__law_pick (aCons (eVar 2) (aCons (eVar 7) aNil)) [x0, x1, .dat potD, x3, x4, .dat (.list (ss.map encS)), x6, .dat (.tuple ((LS ss).map encS)), .dat (.list (ss.map encS)), x9, x10] ps = some (encS q, p1) := by
        rw [eCall, aCons_two (x := potD) (y := .tuple ((LS ss).map encS)) (p1 := ps) (p2 := ps) rfl rfl, bindP_some, e1]
      unfold wid eOp
      rw [e5, bindP_some, e3, bindP_some, e4]
      rfl
    have s9 : sSet 9 wid [x0, x1, .dat potD, x3, x4, .dat (.list (ss.map encS)), x6, .dat (.tuple ((LS ss).map encS)), .dat (.list (ss.map encS)), x9, x10] ps = some (.nx [x0, x1, .dat potD, x3, x4, .dat (.list (ss.map encS)), x6, .dat (.tuple ((LS ss).map encS)), .dat (.list (ss.map encS)), .dat (encS (q ++ [.z0])), x10], p1) := by
      rw [sSet, e2]
      rfl
    have okw : okS ((q ++ [.z0]) :: ss) := ⟨by rw [List.length_cons]; omega, fun s h => by
      rcases List.mem_cons.mp h with rfl | h
      · rw [List.length_append, List.length_singleton]
        omega
      · exact ok.2 s h⟩
    have oke : okS (ss ++ [[]]) := ⟨by rw [List.length_append, List.length_singleton]; omega, fun s h => by
      rcases List.mem_append.mp h with h | h
      · exact ok.2 s h
      · rw [List.mem_singleton] at h
        rw [h]
        simp⟩
    have hz : ∀ s ∈ ss, CB.z0 ∉ s := fun s h z => by
      have := (hs s h).subset z
      simp [backs] at this
    have c4 : chk3 [x0, x1, .dat potD, x3, x4, .dat (.list (ss.map encS)), x6, .dat (.tuple ((LS ss).map encS)), .dat (.list (ss.map encS)), .dat (encS (q ++ [.z0])), x10] p1 = some (false, p1) := by
      refine bOr_no (ls_same (x := .list (((q ++ [.z0]) :: ss).map encS)) (ts := (q ++ [.z0]) :: ss) (M := LS ss) ?_ rfl okw (LS_wider hq hz) rfl) (ls_same (x := .list ((ss ++ [[]]).map encS)) (ts := ss ++ [[]]) (M := [[]]) ?_ rfl oke (LS_empty ss) rfl)
      · have e6 : addD (.list [encS (q ++ [.z0])]) (.list (ss.map encS)) = some (.list (((q ++ [.z0]) :: ss).map encS)) := by
          rw [add_L _ _ (by simp; omega)]
          rfl
        unfold eOp
        rw [show eLst (aCons (eVar 9) aNil) [x0, x1, .dat potD, x3, x4, .dat (.list (ss.map encS)), x6, .dat (.tuple ((LS ss).map encS)), .dat (.list (ss.map encS)), .dat (encS (q ++ [.z0])), x10] p1 = some (.list [encS (q ++ [.z0])], p1) from rfl, bindP_some]
        simp only [eVar, List.getElem?_cons_succ, List.getElem?_cons_zero, bindP_some, e6, Option.map_some]
      · have e6 : addD (.list (ss.map encS)) (.list [.tuple []]) = some (.list ((ss ++ [[]]).map encS)) := by
          rw [add_L _ _ (by simp; omega), List.map_append]
          rfl
        have e3 : ∀ (S0 : Sd) (p : Pt), eLst (aCons (eTup aNil) aNil) S0 p = some (.list [.tuple []], p) := fun _ _ => rfl
        unfold eOp
        simp only [e3, eVar, List.getElem?_cons_succ, List.getElem?_cons_zero, bindP_some, e6, Option.map_some]
    rw [sSeq_nx s9, sIf_no c4]
    exact ⟨_, p1, hp1, rfl⟩
theorem turn (x0 x1 a3 a4 a5 a6 a7 a8 a9 a10 : SV) (ps : Pt) (hp : POk ps) : ∃ (as : List SV) (p' : Pt), as.length = 10 ∧ tbody [x0, x1, .dat potD, a3, a4, a5, a6, a7, a8, a9, a10] ps = some (.nx (x0 :: as), p') := by
  have s3 : sSet 3 eBacks [x0, x1, .dat potD, a3, a4, a5, a6, a7, a8, a9, a10] ps = some (.nx [x0, x1, .dat potD, .dat (.list (backs.map enc)), a4, a5, a6, a7, a8, a9, a10], ps) := rfl
  obtain ⟨d, hd, p1, e1, hp1⟩ := pick_ok (x := .list [.int 2, .int 2, .int 3]) (ds := [.int 2, .int 2, .int 3]) (.inl rfl) hp (by simp) (by simp)
  have hu : ∃ u : Int, d = .int u ∧ 0 < u ∧ u < 10 := by
    simp at hd
    rcases hd with rfl | rfl
    · exact ⟨2, rfl, by decide, by decide⟩
    · exact ⟨3, rfl, by decide, by decide⟩
  obtain ⟨u, rfl, u0, u1⟩ := hu
  have s4 : sSet 4 eUp [x0, x1, .dat potD, .dat (.list (backs.map enc)), a4, a5, a6, a7, a8, a9, a10] ps = some (.nx [x0, x1, .dat potD, .dat (.list (backs.map enc)), .dat (.int u), a5, a6, a7, a8, a9, a10], p1) := by
    rw [sSet, eUp, eCall, aCons_two (x := potD) (y := .list [.int 2, .int 2, .int 3]) (p1 := ps) (p2 := ps) rfl rfl, bindP_some, e1]
    rfl
  have s5 : sNew 5 [x0, x1, .dat potD, .dat (.list (backs.map enc)), .dat (.int u), a5, a6, a7, a8, a9, a10] p1 = some (.nx [x0, x1, .dat potD, .dat (.list (backs.map enc)), .dat (.int u), .own (([] : List CS).map encS), a6, a7, a8, a9, a10], p1) := rfl
  obtain ⟨v, e2, v0, v1, hp2⟩ := draw_ok (m := 10) hp1 (by decide) (by decide)
  have hr : iRange (aCons (eCall f__law_draw (aCons (eVar 2) (aCons (eC (.int 10)) aNil))) aNil) [x0, x1, .dat potD, .dat (.list (backs.map enc)), .dat (.int u), .own (([] : List CS).map encS), a6, a7, a8, a9, a10] p1 = some (rangeD v.toNat, drawS 10 p1) := by
    have e3 : eCall f__law_draw (aCons (eVar 2) (aCons (eC (.int 10)) aNil)) [x0, x1, .dat potD, .dat (.list (backs.map enc)), .dat (.int u), .own (([] : List CS).map encS), a6, a7, a8, a9, a10] p1 = some (.int v, drawS 10 p1) := by
      rw [eCall, aCons_two (x := potD) (y := .int 10) (p1 := p1) (p2 := p1) rfl rfl, bindP_some, ← e2]
    unfold iRange
    rw [aCons_one e3]
    dsimp only
    rw [if_pos (by rw [Bool.and_eq_true]; exact ⟨decide_eq_true (by omega), decide_eq_true (by omega)⟩)]
  have hrl : (rangeD v.toNat).length ≤ 10 := by
    unfold rangeD
    rw [List.length_map, List.length_range]
    omega
  obtain ⟨ss, b6, p3, hp3, hsl, hss, e4⟩ := aloop x0 x1 u a7 a8 a9 a10 u0 u1 (rangeD v.toNat) [] a6 (drawS 10 p1) hp2 (by simp; omega) (by simp)
  have s6 : sFor (iRange (aCons (eCall f__law_draw (aCons (eVar 2) (aCons (eC (.int 10)) aNil))) aNil)) (tName 6) abody [x0, x1, .dat potD, .dat (.list (backs.map enc)), .dat (.int u), .own (([] : List CS).map encS), a6, a7, a8, a9, a10] p1 = some (.nx [x0, x1, .dat potD, .dat (.list (backs.map enc)), .dat (.int u), .own (ss.map encS), b6, a7, a8, a9, a10], p3) := by
    rw [sFor, hr, bindP_some, e4]
  rw [List.length_nil, Nat.zero_add] at hsl
  have ok : okS ss := ⟨by omega, fun s h => by have : s.length ≤ 6 := (hss s h).length_le; omega⟩
  have s7 : pbody [x0, x1, .dat potD, .dat (.list (backs.map enc)), .dat (.int u), .dat (.list (ss.map encS)), b6, a7, a8, a9, a10] p3 = some (.nx [x0, x1, .dat potD, .dat (.list (backs.map enc)), .dat (.int u), .dat (.list (ss.map encS)), b6, .dat (.tuple ((LS ss).map encS)), .dat (.list (ss.map encS)), a9, a10], p3) := by
    have e5 : eCall f__law_least (aCons (eVar 5) aNil) [x0, x1, .dat potD, .dat (.list (backs.map enc)), .dat (.int u), .dat (.list (ss.map encS)), b6, a7, a8, a9, a10] p3 = some (.tuple ((LS ss).map encS), p3) := by
      rw [eCall, aCons_one (x := .list (ss.map encS)) (p1 := p3) rfl, bindP_some, law_least ss p3 ok]
    unfold pbody sPar
    rw [aCons_two e5 (y := .list (ss.map encS)) (p2 := p3) rfl]
    rfl
  obtain ⟨y9, p4, hp4, e6⟩ := checks x0 x1 (.dat (.list (backs.map enc))) (.dat (.int u)) b6 a9 a10 ss p3 hp3 (by omega) hss
  refine ⟨[x1, .dat potD, .dat (.list (backs.map enc)), .dat (.int u), .dat (.list (ss.map encS)), b6, .dat (.tuple ((LS ss).map encS)), .dat (.list (ss.map encS)), y9, a10], p4, rfl, ?_⟩
  · rw [tbody, sSeq_nx s3, sSeq_nx s4, sSeq_nx s5, sSeq_nx s6]
    show sSeq pbody cbody [x0, x1, .dat potD, .dat (.list (backs.map enc)), .dat (.int u), .dat (.list (ss.map encS)), b6, a7, a8, a9, a10] p3 = _
    rw [sSeq_nx s7, e6]
theorem potFree_ints : ∀ ns : List Int, potFreeL (ns.map .int) = true
  | [] => by simp [potFreeL]
  | n :: ns => by simp [potFreeL, potFree, potFree_ints ns]
theorem oturn (ns : List Int) (k : Nat) (hk : k ≤ 63) (as : List SV) (hl : as.length = 10) (ps : Pt) : ∃ (bs : List SV), bs.length = 10 ∧ sPot 2 f__law_pot (aCons (eVar 0) (aCons (eVar 1) aNil)) tbody ((SV.dat (.list (ns.map .int)) :: as).set 1 (.dat (.int k))) ps = some (.nx (.dat (.list (ns.map .int)) :: bs), ps) := by
  match as, hl with
  | [a1, a2, a3, a4, a5, a6, a7, a8, a9, a10], _ =>
    obtain ⟨a, b, e1, ok⟩ := pot_ok ns k ps hk
    obtain ⟨bs, p', hb, e2⟩ := turn (.dat (.list (ns.map .int))) (.dat (.int k)) (forget1 a3) (forget1 a4) (forget1 a5) (forget1 a6) (forget1 a7) (forget1 a8) (forget1 a9) (forget1 a10) (a, b) ok
    have f0 : forget1 (.dat (.list (ns.map .int))) = .dat (.list (ns.map .int)) := by
      show (if potFree (.list (ns.map .int)) then _ else _) = _
      rw [if_pos (by simp only [potFree]; exact potFree_ints ns)]
    refine ⟨bs.map forget1, by rw [List.length_map]; exact hb, ?_⟩
    unfold sPot
    rw [aCons_two (x := .list (ns.map .int)) (y := .int k) (p1 := ps) (p2 := ps) rfl rfl, bindP_some, e1]
    dsimp only
    have e3 : (forget ([SV.dat (.list (ns.map .int)), a1, a2, a3, a4, a5, a6, a7, a8, a9, a10].set 1 (.dat (.int k)))).set 2 (.dat potD) = [.dat (.list (ns.map .int)), .dat (.int k), .dat potD, forget1 a3, forget1 a4, forget1 a5, forget1 a6, forget1 a7, forget1 a8, forget1 a9, forget1 a10] := by
      unfold forget
      simp only [List.set_cons_succ, List.set_cons_zero, List.map_cons, List.map_nil, f0]
      rfl
    rw [e3, e2]
    show some (OutS.nx (forget (.dat (.list (ns.map .int)) :: bs)), ps) = _
    unfold forget
    rw [List.map_cons, f0]
theorem oloop (ns : List Int) (ps : Pt) : ∀ (is : List Nat) (as : List SV), as.length = 10 → (∀ i ∈ is, i ≤ 63) → ∃ (bs : List SV), bs.length = 10 ∧ forGo (tName 1) (sPot 2 f__law_pot (aCons (eVar 0) (aCons (eVar 1) aNil)) tbody) (is.map fun (i : Nat) => PyData.int (i : Int)) (.dat (.list (ns.map .int)) :: as) ps = some (.nx (.dat (.list (ns.map .int)) :: bs), ps)
  | [], as, hl, _ => ⟨as, hl, rfl⟩
  | i :: is, as, hl, hi => by
    obtain ⟨bs, hb, e1⟩ := oturn ns i (hi i List.mem_cons_self) as hl ps
    obtain ⟨cs, hc, e2⟩ := oloop ns ps is bs hb fun j hj => hi j (List.mem_cons_of_mem _ hj)
    refine ⟨cs, hc, ?_⟩
    rw [List.map_cons]
    unfold forGo
    show (match sPot 2 f__law_pot (aCons (eVar 0) (aCons (eVar 1) aNil)) tbody ((SV.dat (.list (ns.map .int)) :: as).set 1 (.dat (.int i))) ps with
      | some (.nx S1, p) => forGo (tName 1) (sPot 2 f__law_pot (aCons (eVar 0) (aCons (eVar 1) aNil)) tbody) (is.map fun (i : Nat) => PyData.int (i : Int)) S1 p
      | some (.ct S1, p) => forGo (tName 1) (sPot 2 f__law_pot (aCons (eVar 0) (aCons (eVar 1) aNil)) tbody) (is.map fun (i : Nat) => PyData.int (i : Int)) S1 p
      | some (.bk S1, p) => some (.nx S1, p)
      | some (.rt d, p) => some (.rt d, p)
      | none => none) = _
    rw [e1]
    exact e2
theorem hlaw (ns : List Int) (_ : ns.length ≤ 63) (_ : ∀ z ∈ ns, Builtin.Int.intBits z ≤ 1048576) : ∃ ps, f_law [.list (ns.map .int)] (0, 0) = some (.bool true, ps) := by
  refine ⟨(0, 0), ?_⟩
  have hj : ∃ j : Int, 1 ≤ j ∧ j ≤ 8 ∧ eCB max2 (aCons (eC (.int 1)) (aCons (eCB min2 (aCons (eC (.int 8)) (aCons (eCB (one lenD) (aCons (eVar 0) aNil)) aNil))) aNil)) (startD 11 [.list (ns.map .int)]) (0, 0) = some (.int j, (0, 0)) := by
    refine ⟨if (if (ns.length : Int) < 8 then (ns.length : Int) else 8) > 1 then (if (ns.length : Int) < 8 then (ns.length : Int) else 8) else 1, by split <;> split <;> omega, by split <;> split <;> omega, ?_⟩
    simp [eCB, aCons, aNil, eC, eVar, startD, bindP, one, lenD, min2, max2]
  obtain ⟨j, j0, j1, ej⟩ := hj
  have hr : iRange (aCons (eCB max2 (aCons (eC (.int 1)) (aCons (eCB min2 (aCons (eC (.int 8)) (aCons (eCB (one lenD) (aCons (eVar 0) aNil)) aNil))) aNil))) aNil) (startD 11 [.list (ns.map .int)]) (0, 0) = some (rangeD j.toNat, (0, 0)) := by
    unfold iRange
    rw [aCons_one ej]
    dsimp only
    rw [if_pos (by rw [Bool.and_eq_true]; exact ⟨decide_eq_true (by omega), decide_eq_true (by omega)⟩)]
  obtain ⟨bs, hb, e⟩ := oloop ns (0, 0) (List.range j.toNat) (List.replicate 10 .un) (by simp) fun i hi => by
    have := List.mem_range.mp hi
    omega
  show runF 11 g_law [.list (ns.map .int)] (0, 0) = _
  have s1 : sFor (iRange (aCons (eCB max2 (aCons (eC (.int 1)) (aCons (eCB min2 (aCons (eC (.int 8)) (aCons (eCB (one lenD) (aCons (eVar 0) aNil)) aNil))) aNil))) aNil)) (tName 1) (sPot 2 f__law_pot (aCons (eVar 0) (aCons (eVar 1) aNil)) tbody) (startD 11 [.list (ns.map .int)]) (0, 0) = some (.nx (.dat (.list (ns.map .int)) :: bs), (0, 0)) := by
    rw [sFor, hr, bindP_some]
    exact e
  unfold runF
  rw [g_law_is, sSeq_nx s1]
  rfl
end K37

set_option Elab.async false
set_option linter.all false
set_option maxRecDepth 100000
namespace K37
open PySem L2 DL
def noListB (K : PySem.W.Frag) : Bool := K.all fun p => match p.2.cls with
  | .type n => n != "list"
  | _ => true
theorem lookup_mem {a : Addr} {o : Obj} : ∀ {K : List (Addr × Obj)}, K.lookup a = some o → (a, o) ∈ K
  | [], e => by cases e
  | (b, u) :: r, e => by
    rw [List.lookup_cons] at e
    split at e
    · next h =>
      have hb : a = b := beq_iff_eq.mp h
      cases e
      subst hb
      exact List.mem_cons_self
    · exact List.mem_cons_of_mem _ (lookup_mem e)
theorem noList_of {K : PySem.W.Frag} (h : noListB K = true) (a : Addr) (o : Obj) (e : K.lookup a = some o) : o.cls ≠ .type "list" := fun z => by
  unfold noListB at h
  rw [List.all_eq_true] at h
  have h1 := h (a, o) (lookup_mem e)
  simp only [z] at h1
  exact absurd h1 (by decide)
theorem all_mk {l : PySem.W.OpenLaw} {w : World} {K : PySem.W.Frag} {h : Heap} {mg : Str → Option Value} {fa : Addr} {ts : List Addr} (X : K.In h) (G : h.Ns mainGlobals mg) (hfa : mg "law" = some (.ref fa)) (htab : ∀ P ∈ ts, h.get? P = some { cls := .none, data := .fields #[] }) (noL : noListB K = true)
    (hlaw : ∀ ns : List Int, ns.length ≤ 63 → (∀ z ∈ ns, Builtin.Int.intBits z ≤ 1048576) → ∃ ps, f_law [.list (ns.map .int)] (0, 0) = some (.bool true, ps))
    {f0 : Addr} {od0 an0 : Option Addr} {sl0 : Array (Option Value)} {oc0 kV0 dc0 pm0 cd0 ct0 : Value} {f1 : Addr} {od1 an1 : Option Addr} {sl1 : Array (Option Value)} {oc1 kV1 dc1 pm1 cd1 ct1 : Value} {f2 : Addr} {od2 an2 : Option Addr} {sl2 : Array (Option Value)} {oc2 kV2 dc2 pm2 cd2 ct2 : Value} {f3 : Addr} {od3 an3 : Option Addr} {sl3 : Array (Option Value)} {oc3 kV3 dc3 pm3 cd3 ct3 : Value} {f4 : Addr} {od4 an4 : Option Addr} {sl4 : Array (Option Value)} {oc4 kV4 dc4 pm4 cd4 ct4 : Value} {f5 : Addr} {od5 an5 : Option Addr} {sl5 : Array (Option Value)} {oc5 kV5 dc5 pm5 cd5 ct5 : Value} {f6 : Addr} {od6 an6 : Option Addr} {sl6 : Array (Option Value)} {oc6 kV6 dc6 pm6 cd6 ct6 : Value} {f7 : Addr} {od7 an7 : Option Addr} {sl7 : Array (Option Value)} {oc7 kV7 dc7 pm7 cd7 ct7 : Value} {f8 : Addr} {od8 an8 : Option Addr} {sl8 : Array (Option Value)} {oc8 kV8 dc8 pm8 cd8 ct8 : Value} {f9 : Addr} {od9 an9 : Option Addr} {sl9 : Array (Option Value)} {oc9 kV9 dc9 pm9 cd9 ct9 : Value} {f10 c10 t10 : Addr} {ddc10 : Option Addr} {vsc10 : Array Value} {slc10 : Array (Option Value)} {od10 an10 : Option Addr} {sl10 : Array (Option Value)} {oc10 kV10 dc10 pm10 ct10 : Value} {f11 : Addr} {od11 an11 : Option Addr} {sl11 : Array (Option Value)} {oc11 kV11 dc11 pm11 cd11 ct11 : Value}
    (a0 : PySem.W.nsIn K mainGlobals "callback_key" = some (some (.ref f0))) (l0 : K.lookup f0 = some ⟨oc0, od0, .func (PySem.W.fnOf "callback_key" "callback_key" (defArgs s_callback_key) (defBody s_callback_key) (defScope s_callback_key) .none kV0 dc0 pm0 an0 cd0 ct0), sl0⟩) (c0d : PySem.W.codeIn K cd0 "callback_key" = true) (k0 : PySem.W.keepIn K (.ref f0) = true)
    (a1 : PySem.W.nsIn K mainGlobals "callbacks_key" = some (some (.ref f1))) (l1 : K.lookup f1 = some ⟨oc1, od1, .func (PySem.W.fnOf "callbacks_key" "callbacks_key" (defArgs s_callbacks_key) (defBody s_callbacks_key) (defScope s_callbacks_key) .none kV1 dc1 pm1 an1 cd1 ct1), sl1⟩) (c1d : PySem.W.codeIn K cd1 "callbacks_key" = true) (k1 : PySem.W.keepIn K (.ref f1) = true)
    (a2 : PySem.W.nsIn K mainGlobals "set_key" = some (some (.ref f2))) (l2 : K.lookup f2 = some ⟨oc2, od2, .func (PySem.W.fnOf "set_key" "set_key" (defArgs s_set_key) (defBody s_set_key) (defScope s_set_key) .none kV2 dc2 pm2 an2 cd2 ct2), sl2⟩) (c2d : PySem.W.codeIn K cd2 "set_key" = true) (k2 : PySem.W.keepIn K (.ref f2) = true)
    (a3 : PySem.W.nsIn K mainGlobals "is_within" = some (some (.ref f3))) (l3 : K.lookup f3 = some ⟨oc3, od3, .func (PySem.W.fnOf "is_within" "is_within" (defArgs s_is_within) (defBody s_is_within) (defScope s_is_within) .none kV3 dc3 pm3 an3 cd3 ct3), sl3⟩) (c3d : PySem.W.codeIn K cd3 "is_within" = true) (k3 : PySem.W.keepIn K (.ref f3) = true)
    (a4 : PySem.W.nsIn K mainGlobals "least_sets" = some (some (.ref f4))) (l4 : K.lookup f4 = some ⟨oc4, od4, .func (PySem.W.fnOf "least_sets" "least_sets" (defArgs s_least_sets) (defBody s_least_sets) (defScope s_least_sets) .none kV4 dc4 pm4 an4 cd4 ct4), sl4⟩) (c4d : PySem.W.codeIn K cd4 "least_sets" = true) (k4 : PySem.W.keepIn K (.ref f4) = true)
    (a5 : PySem.W.nsIn K mainGlobals "_law_pot" = some (some (.ref f5))) (l5 : K.lookup f5 = some ⟨oc5, od5, .func (PySem.W.fnOf "_law_pot" "_law_pot" (defArgs s__law_pot) (defBody s__law_pot) (defScope s__law_pot) .none kV5 dc5 pm5 an5 cd5 ct5), sl5⟩) (c5d : PySem.W.codeIn K cd5 "_law_pot" = true) (k5 : PySem.W.keepIn K (.ref f5) = true)
    (a6 : PySem.W.nsIn K mainGlobals "_law_draw" = some (some (.ref f6))) (l6 : K.lookup f6 = some ⟨oc6, od6, .func (PySem.W.fnOf "_law_draw" "_law_draw" (defArgs s__law_draw) (defBody s__law_draw) (defScope s__law_draw) .none kV6 dc6 pm6 an6 cd6 ct6), sl6⟩) (c6d : PySem.W.codeIn K cd6 "_law_draw" = true) (k6 : PySem.W.keepIn K (.ref f6) = true)
    (a7 : PySem.W.nsIn K mainGlobals "_law_pick" = some (some (.ref f7))) (l7 : K.lookup f7 = some ⟨oc7, od7, .func (PySem.W.fnOf "_law_pick" "_law_pick" (defArgs s__law_pick) (defBody s__law_pick) (defScope s__law_pick) .none kV7 dc7 pm7 an7 cd7 ct7), sl7⟩) (c7d : PySem.W.codeIn K cd7 "_law_pick" = true) (k7 : PySem.W.keepIn K (.ref f7) = true)
    (a8 : PySem.W.nsIn K mainGlobals "_law_place" = some (some (.ref f8))) (l8 : K.lookup f8 = some ⟨oc8, od8, .func (PySem.W.fnOf "_law_place" "_law_place" (defArgs s__law_place) (defBody s__law_place) (defScope s__law_place) .none kV8 dc8 pm8 an8 cd8 ct8), sl8⟩) (c8d : PySem.W.codeIn K cd8 "_law_place" = true) (k8 : PySem.W.keepIn K (.ref f8) = true)
    (a9 : PySem.W.nsIn K mainGlobals "_law_within" = some (some (.ref f9))) (l9 : K.lookup f9 = some ⟨oc9, od9, .func (PySem.W.fnOf "_law_within" "_law_within" (defArgs s__law_within) (defBody s__law_within) (defScope s__law_within) .none kV9 dc9 pm9 an9 cd9 ct9), sl9⟩) (c9d : PySem.W.codeIn K cd9 "_law_within" = true) (k9 : PySem.W.keepIn K (.ref f9) = true)
    (a10 : PySem.W.nsIn K mainGlobals "_law_least" = some (some (.ref f10))) (l10 : K.lookup f10 = some ⟨oc10, od10, .func (PySem.W.fnOf "_law_least" "_law_least" (defArgs s__law_least) (defBody s__law_least) (defScope s__law_least) .none kV10 dc10 pm10 an10 (.ref c10) ct10), sl10⟩) (c10d : PySem.W.codeIn K (.ref c10) "_law_least" = true) (k10 : PySem.W.keepIn K (.ref f10) = true)
    (lc10 : K.lookup c10 = some ⟨.type "code", ddc10, .fields vsc10, slc10⟩) (vc10 : vsc10[11]? = some (.ref t10)) (hd10 : PySem.W.codeHdIn K c10 t10 = true) (np10 : K.lookup t10 = none) (tp10 : t10 ∈ ts)
    (a11 : PySem.W.nsIn K mainGlobals "law" = some (some (.ref f11))) (l11 : K.lookup f11 = some ⟨oc11, od11, .func (PySem.W.fnOf "law" "law" (defArgs s_law) (defBody s_law) (defScope s_law) .none kV11 dc11 pm11 an11 cd11 ct11), sl11⟩) (c11d : PySem.W.codeIn K cd11 "law" = true) (k11 : PySem.W.keepIn K (.ref f11) = true)
    (z_abs : PySem.W.nsIn K mainGlobals "abs" = some none)
    (z_all : PySem.W.nsIn K mainGlobals "all" = some none)
    (z_any : PySem.W.nsIn K mainGlobals "any" = some none)
    (z_divmod : PySem.W.nsIn K mainGlobals "divmod" = some none)
    (z_int : PySem.W.nsIn K mainGlobals "int" = some none)
    (z_isinstance : PySem.W.nsIn K mainGlobals "isinstance" = some none)
    (z_len : PySem.W.nsIn K mainGlobals "len" = some none)
    (z_list : PySem.W.nsIn K mainGlobals "list" = some none)
    (z_max : PySem.W.nsIn K mainGlobals "max" = some none)
    (z_min : PySem.W.nsIn K mainGlobals "min" = some none)
    (z_range : PySem.W.nsIn K mainGlobals "range" = some none)
    (z_sorted : PySem.W.nsIn K mainGlobals "sorted" = some none)
    (z_str : PySem.W.nsIn K mainGlobals "str" = some none)
    (z_tuple : PySem.W.nsIn K mainGlobals "tuple" = some none) :
    LamX.LawAtS l w K CX0 6 63 (Str.ofString "_law_script") mg fa h := by
  have e := hfa.symm.trans (PySem.W.mg_of X G a11)
  cases e
  have F0 := fun_mk (st := s_callback_key) l0 c0d k0
  have b0 := F0.binds (ps := [Str.ofString "callback"]) fun _ _ _ _ _ _ us hl => match us, hl with | [_], _ => rfl
  have F1 := fun_mk (st := s_callbacks_key) l1 c1d k1
  have b1 := F1.binds (ps := [Str.ofString "callbacks"]) fun _ _ _ _ _ _ us hl => match us, hl with | [_], _ => rfl
  have F2 := fun_mk (st := s_set_key) l2 c2d k2
  have b2 := F2.binds (ps := [Str.ofString "callbacks"]) fun _ _ _ _ _ _ us hl => match us, hl with | [_], _ => rfl
  have F3 := fun_mk (st := s_is_within) l3 c3d k3
  have b3 := F3.binds (ps := [Str.ofString "one", Str.ofString "other"]) fun _ _ _ _ _ _ us hl => match us, hl with | [_, _], _ => rfl
  have F4 := fun_mk (st := s_least_sets) l4 c4d k4
  have b4 := F4.binds (ps := [Str.ofString "sets"]) fun _ _ _ _ _ _ us hl => match us, hl with | [_], _ => rfl
  have F5 := fun_mk (st := s__law_pot) l5 c5d k5
  have b5 := F5.binds (ps := [Str.ofString "_law_script", Str.ofString "_law_index"]) fun _ _ _ _ _ _ us hl => match us, hl with | [_, _], _ => rfl
  have F6 := fun_mk (st := s__law_draw) l6 c6d k6
  have b6 := F6.binds (ps := [Str.ofString "_law_pot_here", Str.ofString "_law_many"]) fun _ _ _ _ _ _ us hl => match us, hl with | [_, _], _ => rfl
  have F7 := fun_mk (st := s__law_pick) l7 c7d k7
  have b7 := F7.binds (ps := [Str.ofString "_law_pot_here", Str.ofString "_law_some"]) fun _ _ _ _ _ _ us hl => match us, hl with | [_, _], _ => rfl
  have F8 := fun_mk (st := s__law_place) l8 c8d k8
  have b8 := F8.binds (ps := [Str.ofString "_law_back"]) fun _ _ _ _ _ _ us hl => match us, hl with | [_], _ => rfl
  have F9 := fun_mk (st := s__law_within) l9 c9d k9
  have b9 := F9.binds (ps := [Str.ofString "_law_one", Str.ofString "_law_other"]) fun _ _ _ _ _ _ us hl => match us, hl with | [_, _], _ => rfl
  have C10 : FunC K "_law_least" "_law_least" s__law_least f10 _ c10 := ⟨_, _, _, _, _, _, _, _, rfl, l10, c10d⟩
  have F10 := C10.fn k10
  have b10 := F10.binds (ps := [Str.ofString "_law_some"]) fun _ _ _ _ _ _ us hl => match us, hl with | [_], _ => rfl
  have F11 := fun_mk (st := s_law) l11 c11d k11
  have b11 := F11.binds (ps := [Str.ofString "_law_script"]) fun _ _ _ _ _ _ us hl => match us, hl with | [_], _ => rfl
  letI : TBL := ⟨[(t10, lamQ "_law_least" s__law_least)]⟩
  let T : TX K mg := { a_callback_key := f0, fd_callback_key := _, F_callback_key := F0, b_callback_key := b0, g_callback_key := PySem.W.mg_of X G a0, a_callbacks_key := f1, fd_callbacks_key := _, F_callbacks_key := F1, b_callbacks_key := b1, g_callbacks_key := PySem.W.mg_of X G a1, a_set_key := f2, fd_set_key := _, F_set_key := F2, b_set_key := b2, g_set_key := PySem.W.mg_of X G a2, a_is_within := f3, fd_is_within := _, F_is_within := F3, b_is_within := b3, g_is_within := PySem.W.mg_of X G a3, a_least_sets := f4, fd_least_sets := _, F_least_sets := F4, b_least_sets := b4, g_least_sets := PySem.W.mg_of X G a4, a__law_pot := f5, fd__law_pot := _, F__law_pot := F5, b__law_pot := b5, g__law_pot := PySem.W.mg_of X G a5, a__law_draw := f6, fd__law_draw := _, F__law_draw := F6, b__law_draw := b6, g__law_draw := PySem.W.mg_of X G a6, a__law_pick := f7, fd__law_pick := _, F__law_pick := F7, b__law_pick := b7, g__law_pick := PySem.W.mg_of X G a7, a__law_place := f8, fd__law_place := _, F__law_place := F8, b__law_place := b8, g__law_place := PySem.W.mg_of X G a8, a__law_within := f9, fd__law_within := _, F__law_within := F9, b__law_within := b9, g__law_within := PySem.W.mg_of X G a9, a__law_least := f10, fd__law_least := _, F__law_least := F10, b__law_least := b10, g__law_least := PySem.W.mg_of X G a10, c__law_least := c10, t__law_least := t10, C__law_least := C10, a_law := fa, fd_law := _, F_law := F11, b_law := b11, g_law := PySem.W.mg_of X G a11, m_abs := PySem.W.mg_none_of X G z_abs, m_all := PySem.W.mg_none_of X G z_all, m_any := PySem.W.mg_none_of X G z_any, m_divmod := PySem.W.mg_none_of X G z_divmod, m_int := PySem.W.mg_none_of X G z_int, m_isinstance := PySem.W.mg_none_of X G z_isinstance, m_len := PySem.W.mg_none_of X G z_len, m_list := PySem.W.mg_none_of X G z_list, m_max := PySem.W.mg_none_of X G z_max, m_min := PySem.W.mg_none_of X G z_min, m_range := PySem.W.mg_none_of X G z_range, m_sorted := PySem.W.mg_none_of X G z_sorted, m_str := PySem.W.mg_none_of X G z_str, m_tuple := PySem.W.mg_none_of X G z_tuple }
  refine law_at (cs := [(c10, t10)]) (fn := f_law) ?_ ?_ ?_ (fun s v => .of_eq rfl) ?_ (noList_of noL) (fun base KX Gb TB => w_law T ?_) hlaw
  · intro p hp
    simp only [List.mem_cons, List.not_mem_nil, or_false] at hp
    rcases hp with rfl <;> (first | exact htab _ tp10)
  · intro p hp
    simp only [List.mem_cons, List.not_mem_nil, or_false] at hp
    rcases hp with rfl <;> (first | exact np10)
  · intro p hp
    simp only [List.mem_cons, List.not_mem_nil, or_false] at hp
    rcases hp with rfl <;> (first | exact PySem.W.codeHd_of_K X hd10)
  · intro q hq
    have hq : q ∈ [(t10, lamQ "_law_least" s__law_least)] := hq
    simp only [List.mem_cons, List.not_mem_nil, or_false] at hq
    rcases hq with rfl <;> (first | exact ⟨c10, by simp⟩)
  · refine ⟨trivial, TB (c10, t10) (by simp), ?_, ?_⟩
    · show (t10, lamQ "_law_least" s__law_least) ∈ [(t10, lamQ "_law_least" s__law_least)]
      simp
    · intro q hq e
      have hq : q ∈ [(t10, lamQ "_law_least" s__law_least)] := hq
      simp only [List.mem_cons, List.not_mem_nil, or_false] at hq
      rcases hq with rfl <;> (first | rfl | (exact absurd e (by decide)))
end K37
open PySem PySem.W PyProof.Rows
set_option maxHeartbeats 0 in
theorem PySem.Challenge.cw_nestdeep_k37_least_sets_holds : PySem.Challenge.rw_nestdeep_k37_least_sets.Holds := by
  w_on; o_law; k_head; (case hw => w_witness2)
  k_fill
  refine LamX.walk_ofTs (l := PySem.Challenge.rw_nestdeep_k37_least_sets) (n := 63) (k := 6) (x := "_law_script") (CX := fun _ => L2.CX0) rfl (by decide) rfl ⟨rfl, by decide, by decide⟩ (fun w h Y => PySem.W.km_in_of Y) ?F (fun _ _ _ _ _ h => h)
  case F =>
    intro w mg fa h Y KX G hmg
    refine' K37.all_mk KX G hmg (PySem.W.km_tabs_of Y) ?noL K37.hlaw ?a0 ?l0 ?c0d ?k0 ?a1 ?l1 ?c1d ?k1 ?a2 ?l2 ?c2d ?k2 ?a3 ?l3 ?c3d ?k3 ?a4 ?l4 ?c4d ?k4 ?a5 ?l5 ?c5d ?k5 ?a6 ?l6 ?c6d ?k6 ?a7 ?l7 ?c7d ?k7 ?a8 ?l8 ?c8d ?k8 ?a9 ?l9 ?c9d ?k9 ?a10 ?l10 ?c10d ?k10 ?lc10 ?vc10 ?hd10 ?np10 ?tp10 ?a11 ?l11 ?c11d ?k11 ?z_abs ?z_all ?z_any ?z_divmod ?z_int ?z_isinstance ?z_len ?z_list ?z_max ?z_min ?z_range ?z_sorted ?z_str ?z_tuple
    (case a0 => k_is)
    (case l0 => k_is)
    (case c0d => k_is)
    (case k0 => k_is)
    (case a1 => k_is)
    (case l1 => k_is)
    (case c1d => k_is)
    (case k1 => k_is)
    (case a2 => k_is)
    (case l2 => k_is)
    (case c2d => k_is)
    (case k2 => k_is)
    (case a3 => k_is)
    (case l3 => k_is)
    (case c3d => k_is)
    (case k3 => k_is)
    (case a4 => k_is)
    (case l4 => k_is)
    (case c4d => k_is)
    (case k4 => k_is)
    (case a5 => k_is)
    (case l5 => k_is)
    (case c5d => k_is)
    (case k5 => k_is)
    (case a6 => k_is)
    (case l6 => k_is)
    (case c6d => k_is)
    (case k6 => k_is)
    (case a7 => k_is)
    (case l7 => k_is)
    (case c7d => k_is)
    (case k7 => k_is)
    (case a8 => k_is)
    (case l8 => k_is)
    (case c8d => k_is)
    (case k8 => k_is)
    (case a9 => k_is)
    (case l9 => k_is)
    (case c9d => k_is)
    (case k9 => k_is)
    (case a10 => k_is)
    (case l10 => k_is)
    (case c10d => k_is)
    (case k10 => k_is)
    (case lc10 => k_is)
    (case vc10 => first | rfl | decide)
    (case hd10 => first | rfl | decide)
    (case np10 => first | rfl | decide)
    (case tp10 => decide)
    (case a11 => k_is)
    (case l11 => k_is)
    (case c11d => k_is)
    (case k11 => k_is)
    (case z_abs => k_is)
    (case z_all => k_is)
    (case z_any => k_is)
    (case z_divmod => k_is)
    (case z_int => k_is)
    (case z_isinstance => k_is)
    (case z_len => k_is)
    (case z_list => k_is)
    (case z_max => k_is)
    (case z_min => k_is)
    (case z_range => k_is)
    (case z_sorted => k_is)
    (case z_str => k_is)
    (case z_tuple => k_is)
    (case noL => first | rfl | k_is)
