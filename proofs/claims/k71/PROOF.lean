import PyProof.Rows.All
import Wide.All
import OpenK.AllK
import Wide.FinOn
import HandS.ForMost
import HandS.Deep
import HandS.IsInst
import HandS.TupAny
import HandS.Style
import HandS.Wide
import HandS.WideBits
import HandS.Flow
import HandS.Lambda
import HandS.SortKw
import KE.SortKeyHeap
import KE.KDictKeyed
import KE.KeyNested
import KE.KDictCopyH
import KE.KDictWalk
import KE.KDictList
import KE.GoesComp
import KE.GoesMore
import HandS.EndTab
import KE.KNestM
import PyProof.ReprRoads
import HandS.Iter
import HandS.Text
import HandS.Zip
import KE.GoesEnumKw
import HandS.Strs
import HandS.TupMul
import PySem.Challenge.RW_nestdeep_k71_contexts_judged
set_option Elab.async false
set_option linter.all false
set_option maxRecDepth 100000
/-! D-layer, part a: data that values denote, views of the heap, the pot (one list of two whole numbers that draws change), slots. -/
namespace DL
open PySem L2

/-- what stands in the pot -/
abbrev Pt := Int × Int
/-- the datum that stands for the pot itself -/
def potD : PyData := .dict [(.none, .none), (.none, .none)]

theorem same_l {G H : Hp} {a : Addr} {xs : List V} (e : Same G H) (h : Rd G a (.lst xs)) : Rd H a (.lst xs) := by
  rcases h with h | ⟨o, h⟩
  · exact .inl (e _ _ h)
  · exact .inr ⟨o, e _ _ h⟩
theorem same_k {G H : Hp} {a : Addr} {xs : List (Key × V)} (e : Same G H) (h : Rd G a (.dK xs)) : Rd H a (.dK xs) := by
  rcases h with h | ⟨o, h⟩
  · exact .inl (e _ _ h)
  · exact .inr ⟨o, e _ _ h⟩
theorem same_t {K : PySem.W.Frag} {G H : Hp} {a : Addr} {xs : List V} (e : Same G H) (h : SqT K G a xs) : SqT K H a xs := by
  rcases h with (h | ⟨o, h⟩) | h
  · exact .inl (.inl (e _ _ h))
  · exact .inl (.inr ⟨o, e _ _ h⟩)
  · exact .inr h
theorem same_new {H : Hp} {p : Addr} {o : HO} (h : H p = none) : Same H (upd H p o) := fun b x e => by
  rw [upd_ne (ne_of_none e h)]
  exact e

def keyD : Key → PyData
  | .inl i => .int i
  | .inr x => .str x
mutual
/-- the value v denotes the datum d, in the view G of the heap -/
inductive Rv (K : PySem.W.Frag) (pp : Option Addr) (G : Hp) : V → PyData → Prop
  | non : Rv K pp G .non .none
  | bl (b : Bool) : Rv K pp G (.bl b) (.bool b)
  | int (i : Int) : Rv K pp G (.int i) (.int i)
  | str (x : Str) : Rv K pp G (.str x) (.str x)
  | lst {a : Addr} {xs : List V} {ds : List PyData} : Rd G a (.lst xs) → RvL K pp G xs ds → Rv K pp G (.ref a) (.list ds)
  | tup {a : Addr} {xs : List V} {ds : List PyData} : SqT K G a xs → RvL K pp G xs ds → Rv K pp G (.ref a) (.tuple ds)
  | pot {a : Addr} : pp = some a → Rv K pp G (.ref a) potD
  | dct {a : Addr} {kvs : List (Key × V)} {es : List (PyData × PyData)} : Rd G a (.dK kvs) → RvK K pp G kvs es → Rv K pp G (.ref a) (.dict es)
inductive RvL (K : PySem.W.Frag) (pp : Option Addr) (G : Hp) : List V → List PyData → Prop
  | nil : RvL K pp G [] []
  | cons {v : V} {vs : List V} {d : PyData} {ds : List PyData} : Rv K pp G v d → RvL K pp G vs ds → RvL K pp G (v :: vs) (d :: ds)
inductive RvK (K : PySem.W.Frag) (pp : Option Addr) (G : Hp) : List (Key × V) → List (PyData × PyData) → Prop
  | nil : RvK K pp G [] []
  | cons {k : Key} {v : V} {kvs : List (Key × V)} {d : PyData} {es : List (PyData × PyData)} : Rv K pp G v d → RvK K pp G kvs es → RvK K pp G ((k, v) :: kvs) ((keyD k, d) :: es)
end

section
variable {K : PySem.W.Frag} {pp : Option Addr} {G G' H : Hp}
mutual
theorem Rv.mono (e : Same G G') : ∀ (d : PyData) (v : V), Rv K pp G v d → Rv K pp G' v d
  | .none, _, h => by cases h; exact .non
  | .bool b, _, h => by cases h; exact .bl b
  | .int i, _, h => by cases h; exact .int i
  | .str x, _, h => by cases h; exact .str x
  | .list ds, _, h => by
    cases h with
    | lst hs ha => exact .lst (same_l e hs) (RvL.mono e ds _ ha)
  | .tuple ds, _, h => by
    cases h with
    | tup hs ha => exact .tup (same_t e hs) (RvL.mono e ds _ ha)
  | .dict kvs, _, h => by
    cases h with
    | pot q => exact .pot q
    | dct hs ha => exact .dct (same_k e hs) (RvK.mono e kvs _ ha)
theorem RvL.mono (e : Same G G') : ∀ (ds : List PyData) (vs : List V), RvL K pp G vs ds → RvL K pp G' vs ds
  | [], _, h => by cases h; exact .nil
  | d :: ds, _, h => by
    cases h with
    | cons a b => exact .cons (Rv.mono e d _ a) (RvL.mono e ds _ b)
theorem RvK.mono (e : Same G G') : ∀ (es : List (PyData × PyData)) (kvs : List (Key × V)), RvK K pp G kvs es → RvK K pp G' kvs es
  | [], _, h => by cases h; exact .nil
  | (_, d) :: es, _, h => by
    cases h with
    | cons a b => exact .cons (Rv.mono e d _ a) (RvK.mono e es _ b)
end
mutual
theorem Rv.dp (e : Same G H) : ∀ (d : PyData) (v : V), Rv K pp G v d → d.canLay0 = true → Dp K H v d
  | .none, _, h, _ => by cases h; exact .non
  | .bool b, _, h, _ => by cases h; exact .bl b
  | .int i, _, h, _ => by cases h; exact .int i
  | .str x, _, h, _ => by cases h; exact .str x
  | .list ds, _, h, c => by
    cases h with
    | lst hs ha => exact .lst (.inl (same_l e hs)) (RvL.dp e ds _ ha (by simpa only [PyData.canLay0] using c))
  | .tuple ds, _, h, c => by
    cases h with
    | tup hs ha => exact .tup (same_t e hs) (RvL.dp e ds _ ha (by simpa only [PyData.canLay0] using c))
  | .dict kvs, _, h, c => by simp [PyData.canLay0] at c
theorem RvL.dp (e : Same G H) : ∀ (ds : List PyData) (vs : List V), RvL K pp G vs ds → PyData.canLayAll0 ds = true → DpAll K H vs ds
  | [], _, h, _ => by cases h; exact .nil
  | d :: ds, _, h, c => by
    have c' : d.canLay0 = true ∧ PyData.canLayAll0 ds = true := by
      simpa only [PyData.canLayAll0, Bool.and_eq_true] using c
    cases h with
    | cons a b => exact .cons (Rv.dp e d _ a c'.1) (RvL.dp e ds _ b c'.2)
end
theorem RvL.length : ∀ {vs : List V} {ds : List PyData}, RvL K pp G vs ds → vs.length = ds.length
  | _, _, .nil => rfl
  | _, _, .cons _ t => congrArg (· + 1) t.length
theorem RvL.get : ∀ {vs : List V} {ds : List PyData} {i : Nat} {d : PyData}, RvL K pp G vs ds → ds[i]? = some d → ∃ v, vs[i]? = some v ∧ Rv K pp G v d
  | _, _, _, _, .nil, e => by simp at e
  | _, _, 0, _, .cons r _, e => by
    have e' := Option.some.inj (show some _ = some _ from e)
    subst e'
    exact ⟨_, rfl, r⟩
  | _, _, i + 1, d, .cons _ t, e => by
    obtain ⟨v, h1, h2⟩ := RvL.get (i := i) (d := d) t (by simpa using e)
    exact ⟨v, by simpa using h1, h2⟩
theorem RvL.app : ∀ {vs ws : List V} {ds es : List PyData}, RvL K pp G vs ds → RvL K pp G ws es → RvL K pp G (vs ++ ws) (ds ++ es)
  | _, _, _, _, .nil, s => s
  | _, _, _, _, .cons r t, s => .cons r (RvL.app t s)
theorem RvL.take : ∀ {vs : List V} {ds : List PyData} (n : Nat), RvL K pp G vs ds → RvL K pp G (vs.take n) (ds.take n)
  | _, _, 0, _ => .nil
  | _, _, _ + 1, .nil => .nil
  | _, _, n + 1, .cons r t => .cons r (RvL.take n t)
theorem RvL.drop : ∀ {vs : List V} {ds : List PyData} (n : Nat), RvL K pp G vs ds → RvL K pp G (vs.drop n) (ds.drop n)
  | _, _, 0, r => r
  | _, _, _ + 1, .nil => .nil
  | _, _, n + 1, .cons _ t => RvL.drop n t
theorem RvL.rev : ∀ {vs : List V} {ds : List PyData}, RvL K pp G vs ds → RvL K pp G vs.reverse ds.reverse
  | _, _, .nil => .nil
  | _, _, .cons r t => by
    rw [List.reverse_cons, List.reverse_cons]
    exact RvL.app (RvL.rev t) (.cons r .nil)
theorem rv_int {v : V} {i : Int} (h : Rv K pp G v (.int i)) : v = .int i := by cases h; rfl
theorem rv_bl {v : V} {b : Bool} (h : Rv K pp G v (.bool b)) : v = .bl b := by cases h; rfl
theorem rv_str {v : V} {x : Str} (h : Rv K pp G v (.str x)) : v = .str x := by cases h; rfl
theorem rv_non {v : V} (h : Rv K pp G v .none) : v = .non := by cases h; rfl
theorem rv_lst {v : V} {ds : List PyData} (h : Rv K pp G v (.list ds)) : ∃ a xs, v = .ref a ∧ Rd G a (.lst xs) ∧ RvL K pp G xs ds := by
  cases h with
  | lst a b => exact ⟨_, _, rfl, a, b⟩
theorem rv_tup {v : V} {ds : List PyData} (h : Rv K pp G v (.tuple ds)) : ∃ a xs, v = .ref a ∧ SqT K G a xs ∧ RvL K pp G xs ds := by
  cases h with
  | tup a b => exact ⟨_, _, rfl, a, b⟩
end

/-! ### where one stands -/
/-- the tables of code objects that lambdas need -/
class TBL where
  T : List (Addr × Str)
/-- no table -/
def NT (o : HO) : Prop := ∀ ps, o ≠ .tbl ps
theorem nt_lst {xs : List V} : NT (.lst xs) := fun _ z => by cases z
theorem nt_tup {xs : List V} : NT (.tup xs) := fun _ z => by cases z
theorem nt_ext {φ : Heap → Prop} : NT (.ext φ) := fun _ z => by cases z
theorem tab_upd {T : List (Addr × Str)} {H : Hp} {p : Addr} {xs : List V} {o : HO} (h : H p = some (.lst xs)) (t : LamX.Tabs T H) : LamX.Tabs T (upd H p o) := fun q hq => by
  obtain ⟨ps, h1, h2, h3⟩ := t q hq
  refine ⟨ps, ?_, h2, fun pos cv hc => ?_⟩
  · rw [upd_ne (ne_of h1 h (fun z => by cases z))]
    exact h1
  · obtain ⟨c, e1, e2⟩ := h3 pos cv hc
    refine ⟨c, e1, ?_⟩
    rw [upd_ne (ne_of e2 h (fun z => by unfold LamX.CodeO at z; cases z))]
    exact e2
section
variable [TBL]
def OT (H : Hp) : Prop := ∀ b ps, H b = some (.tbl ps) → ∃ q, (b, q) ∈ TBL.T
def VT (G : Hp) : Prop := ∀ b ps, G b ≠ some (.tbl ps)
theorem ot_upd {H : Hp} {p : Addr} {o : HO} (nt : NT o) (h : OT H) : OT (upd H p o) := fun b ps e => by
  by_cases hb : b = p
  · subst hb
    rw [upd_same] at e
    exact absurd (Option.some.inj e) (nt ps)
  · rw [upd_ne hb] at e
    exact h b ps e
theorem vt_upd {G : Hp} {p : Addr} {o : HO} (nt : NT o) (h : VT G) : VT (upd G p o) := fun b ps e => by
  by_cases hb : b = p
  · subst hb
    rw [upd_same] at e
    exact absurd (Option.some.inj e) (nt ps)
  · rw [upd_ne hb] at e
    exact h b ps e
/-- the view lies in the heap; the pot stands beside the view -/
structure Cf (pp : Option Addr) (ps : Pt) (G H : Hp) : Prop where
  ex : Same G H
  pot : ∀ a, pp = some a → G a = none ∧ H a = some (.lst [.int ps.1, .int ps.2])
  tb : LamX.Tabs TBL.T H
  vt : VT G
  ot : OT H
/-- from one state to a later one: the view has grown by new objects alone; all that stood stands, but the pot and what is owned (ow) -/
structure Go (pp : Option Addr) (ps' : Pt) (ow : List Addr) (G H G' H' : Hp) : Prop where
  gg : Same G G'
  cf : Cf pp ps' G' H'
  fresh : ∀ b o, G' b = some o → G b = none → H b = none
  keep : ∀ b o, H b = some o → pp ≠ some b → b ∉ ow → NT o → H' b = some o
  there : ∀ b, H' b = none → H b = none
section
variable {pp : Option Addr} {ps ps1 ps2 : Pt} {ow : List Addr} {G H G1 H1 G2 H2 : Hp}
theorem Go.refl (c : Cf pp ps G H) : Go pp ps ow G H G H := ⟨Same.refl G, c, fun b o h n => absurd (n.symm.trans h) (by simp), fun _ _ h _ _ _ => h, fun _ h => h⟩
/-- what stood is still there, in some form -/
theorem Go.none_of (g : Go pp ps1 [] G H G1 H1) {b : Addr} (h : H1 b = none) : H b = none := g.there b h
theorem Go.trans (a : Go pp ps1 [] G H G1 H1) (b : Go pp ps2 [] G1 H1 G2 H2) : Go pp ps2 [] G H G2 H2 where
  gg := a.gg.trans b.gg
  cf := b.cf
  fresh := fun c o h n => by
    cases q : G1 c with
    | none => exact a.none_of (b.fresh c o h q)
    | some u => exact a.fresh c u q n
  keep := fun c o h hp ho nt => b.keep c o (a.keep c o h hp ho nt) hp ho nt
  there := fun c h => a.there c (b.there c h)
theorem Go.mono {ow' : List Addr} (g : Go pp ps1 ow G H G1 H1) (h : ∀ b ∈ ow, b ∈ ow') : Go pp ps1 ow' G H G1 H1 := ⟨g.gg, g.cf, g.fresh, fun b o x y z nt => g.keep b o x y (fun m => z (h b m)) nt, g.there⟩
/-- a new object that is put into the view -/
theorem Go.lay {p : Addr} {o : HO} (c : Cf pp ps G H) (h : H p = none) (nt : NT o := by first | exact nt_lst | exact nt_tup | exact nt_ext) : Go pp ps ow G H (upd G p o) (upd H p o) := by
  have hg : G p = none := c.ex.free h
  refine ⟨same_new hg, ⟨fun b x e => ?_, fun a ha => ?_, c.tb.ext (same_new h), vt_upd nt c.vt, ot_upd nt c.ot⟩, fun b x e n => ?_, fun b x e _ _ _ => same_new h b x e, fun b e => (same_new h).free e⟩
  · by_cases hb : b = p
    · subst hb
      rw [upd_same] at e ⊢
      exact e
    · rw [upd_ne hb] at e ⊢
      exact c.ex b x e
  · have hne : a ≠ p := fun z => by
      subst z
      rw [(c.pot a ha).2] at h
      cases h
    rw [upd_ne hne, upd_ne hne]
    exact c.pot a ha
  · by_cases hb : b = p
    · subst hb
      exact h
    · rw [upd_ne hb, n] at e
      cases e
/-- a new object that is not put into the view -/
theorem Go.hide {p : Addr} {o : HO} (c : Cf pp ps G H) (h : H p = none) (nt : NT o := by first | exact nt_lst | exact nt_tup | exact nt_ext) : Go pp ps ow G H G (upd H p o) := by
  refine ⟨Same.refl G, ⟨c.ex.trans (same_new h), fun a ha => ⟨(c.pot a ha).1, same_new h a _ (c.pot a ha).2⟩, c.tb.ext (same_new h), c.vt, ot_upd nt c.ot⟩, fun b x e n => absurd (n.symm.trans e) (by simp), fun b x e _ _ _ => same_new h b x e, fun b e => (same_new h).free e⟩
end
end

/-! ### slots -/
/-- what a name holds: nothing that is known, a datum, or a list that is the def's own to change -/
inductive SV where
  | un
  | dat (d : PyData)
  | own (ds : List PyData)
abbrev Sd := List SV
def SlOk (K : PySem.W.Frag) (pp : Option Addr) (G H : Hp) : SV → Option V → Prop
  | .un, _ => True
  | .dat d, o => ∃ v, o = some v ∧ Rv K pp G v d
  | .own ds, o => ∃ p vs, o = some (.ref p) ∧ H p = some (.lst vs) ∧ G p = none ∧ pp ≠ some p ∧ RvL K pp G vs ds
/-- the address p is that of an own list -/
def Owned (S : Sd) (σ : L2.St) (p : Addr) : Prop := ∃ (i : Nat) (ds : List PyData), S[i]? = some (SV.own ds) ∧ σ[i]? = some (some (V.ref p))
structure Sl (K : PySem.W.Frag) (pp : Option Addr) (G H : Hp) (S : Sd) (σ : L2.St) : Prop where
  len : S.length = σ.length
  each : ∀ (i : Nat) (sv : SV), S[i]? = some sv → ∃ o, σ[i]? = some o ∧ SlOk K pp G H sv o
  apart : ∀ (i j : Nat) (ds es : List PyData) (p : Addr), S[i]? = some (.own ds) → S[j]? = some (.own es) → σ[i]? = some (some (.ref p)) → σ[j]? = some (some (.ref p)) → i = j
section
variable {K : PySem.W.Frag} {pp : Option Addr} {ps ps1 : Pt} {G H G1 H1 : Hp} {S : Sd} {σ : L2.St}
/-- behind an expression the names hold what they held -/
theorem Sl.go [TBL] (s : Sl K pp G H S σ) (g : Go pp ps1 [] G H G1 H1) : Sl K pp G1 H1 S σ := by
  refine ⟨s.len, fun i sv e => ?_, s.apart⟩
  obtain ⟨o, h1, h2⟩ := s.each i sv e
  refine ⟨o, h1, ?_⟩
  cases sv with
  | un => trivial
  | dat d =>
    obtain ⟨v, rfl, r⟩ := h2
    exact ⟨v, rfl, Rv.mono g.gg d v r⟩
  | own ds =>
    obtain ⟨p, vs, rfl, hp, gp, np, r⟩ := h2
    refine ⟨p, vs, rfl, g.keep p _ hp np (by simp) nt_lst, ?_, np, RvL.mono g.gg ds vs r⟩
    cases q : G1 p with
    | none => rfl
    | some u =>
      have := g.fresh p u q gp
      rw [hp] at this
      cases this
end
end DL

set_option Elab.async false
set_option linter.all false
set_option maxRecDepth 100000
/-! D-layer, part b: expressions. A judgement PD X e g: the expression e computes the datum that g says, of the data in the slots, and turns the pot as g says. -/
namespace DL
open PySem L2
variable [TBL]

abbrev EG := Sd → Pt → Option (PyData × Pt)
abbrev AG := Sd → Pt → Option (List PyData × Pt)
abbrev BG := Sd → Pt → Option (Bool × Pt)
def bindP {α β : Type} (r : Option (α × Pt)) (k : α → Pt → Option (β × Pt)) : Option (β × Pt) := match r with
  | some (a, p) => k a p
  | none => none
@[simp] theorem bindP_some {α β : Type} (a : α) (p : Pt) (k : α → Pt → Option (β × Pt)) : bindP (some (a, p)) k = k a p := rfl
@[simp] theorem bindP_none {α β : Type} (k : α → Pt → Option (β × Pt)) : bindP none k = none := rfl
theorem bindP_inv {α β : Type} {r : Option (α × Pt)} {k : α → Pt → Option (β × Pt)} {z : β × Pt} (h : bindP r k = some z) : ∃ a p, r = some (a, p) ∧ k a p = some z := by
  cases r with
  | none => cases h
  | some x => exact ⟨x.1, x.2, rfl, h⟩

def TD (K : PySem.W.Frag) (g : EG) : TE := fun σ H Q => ∃ (pp : Option Addr) (ps : Pt) (G : Hp) (S : Sd) (d : PyData) (ps' : Pt), Cf pp ps G H ∧ Sl K pp G H S σ ∧ g S ps = some (d, ps') ∧
  ∀ v G' H', Go pp ps' [] G H G' H' → Rv K pp G' v d → Q v H'
def TDT (K : PySem.W.Frag) (g : BG) : TT := fun σ H Q => ∃ (pp : Option Addr) (ps : Pt) (G : Hp) (S : Sd) (b : Bool) (ps' : Pt), Cf pp ps G H ∧ Sl K pp G H S σ ∧ g S ps = some (b, ps') ∧
  ∀ G' H', Go pp ps' [] G H G' H' → Q b H'
def TDA (K : PySem.W.Frag) (g : AG) : TA := fun σ H Q => ∃ (pp : Option Addr) (ps : Pt) (G : Hp) (S : Sd) (ds : List PyData) (ps' : Pt), Cf pp ps G H ∧ Sl K pp G H S σ ∧ g S ps = some (ds, ps') ∧
  ∀ vs G' H', Go pp ps' [] G H G' H' → RvL K pp G' vs ds → Q vs H'
/-- two values to one, by data -/
def rD2 (K : PySem.W.Frag) (o : PyData → PyData → Option PyData) : R2 := fun v w H Q => ∃ (pp : Option Addr) (ps : Pt) (G : Hp) (x y d : PyData), Cf pp ps G H ∧ Rv K pp G v x ∧ Rv K pp G w y ∧ o x y = some d ∧
  ∀ z G' H', Go pp ps [] G H G' H' → Rv K pp G' z d → Q z H'
def rD1 (K : PySem.W.Frag) (o : PyData → Option PyData) : V → Hp → VK → Prop := fun v H Q => ∃ (pp : Option Addr) (ps : Pt) (G : Hp) (x d : PyData), Cf pp ps G H ∧ Rv K pp G v x ∧ o x = some d ∧
  ∀ z G' H', Go pp ps [] G H G' H' → Rv K pp G' z d → Q z H'
def rDL (K : PySem.W.Frag) (o : List PyData → Option PyData) : List V → Hp → VK → Prop := fun vs H Q => ∃ (pp : Option Addr) (ps : Pt) (G : Hp) (xs : List PyData) (d : PyData), Cf pp ps G H ∧ RvL K pp G vs xs ∧ o xs = some d ∧
  ∀ z G' H', Go pp ps [] G H G' H' → Rv K pp G' z d → Q z H'

abbrev PD (X : Cx) (e : Expr) (g : EG) : Prop := PE X e (TD X.K g)
abbrev PDT (X : Cx) (e : Expr) (g : BG) : Prop := PT X e (TDT X.K g)
abbrev PDW (X : Cx) (e : Expr) (g : BG) : Prop := PW X e (TDT X.K g)
abbrev PDA (X : Cx) (es : List Expr) (g : AG) : Prop := PA X es (TDA X.K g)

section
variable {X : Cx}
theorem pe_imp {e : Expr} {t t' : TE} (h : PE X e t) (i : ∀ σ H Q, t' σ H Q → t σ H Q) : PE X e t' := ⟨fun pins s σ H Q I q => h.run pins s σ H Q I (i σ H Q q)⟩
theorem pt_imp {e : Expr} {t t' : TT} (h : PT X e t) (i : ∀ σ H Q, t' σ H Q → t σ H Q) : PT X e t' := ⟨fun pins s σ H Q I q => h.run pins s σ H Q I (i σ H Q q)⟩
theorem pw_imp {e : Expr} {t t' : TT} (h : PW X e t) (i : ∀ σ H Q, t' σ H Q → t σ H Q) : PW X e t' := ⟨fun wh pins s σ H Q I q => h.run wh pins s σ H Q I (i σ H Q q)⟩
theorem pa_imp {es : List Expr} {t t' : TA} (h : PA X es t) (i : ∀ σ H Q, t' σ H Q → t σ H Q) : PA X es t' := ⟨fun pos pins s σ H Q I q => h.run pos pins s σ H Q I (i σ H Q q)⟩

/-! ### names, constants -/
def eVar (i : Nat) : EG := fun S ps => match S[i]? with
  | some (.dat d) => some (d, ps)
  | _ => none
theorem eVar_inv {i : Nat} {S : Sd} {ps ps' : Pt} {d : PyData} (h : eVar i S ps = some (d, ps')) : S[i]? = some (.dat d) ∧ ps' = ps := by
  unfold eVar at h
  split at h
  · next d' e =>
    cases h
    exact ⟨e, rfl⟩
  · cases h
theorem pd_var (i : Nat) {x : Str} {pos : Pos} (hN : X.N[i]? = some x := by rfl) (hv : Vis X.env.scope x := by first | exact Or.inl rfl | exact Or.inr (Or.inl rfl) | exact Or.inr (Or.inr rfl))
    (hd : (x == ("__debug__" : Str)) = false := by decide) (hcd : (x == ("__classdict__" : Str)) = false := by decide) : PD X (.Name x pos) (eVar i) :=
  pe_imp (pe_var hN hv hd hcd) fun σ H Q ⟨pp, ps, G, S, d, ps', c, s, e, k⟩ => by
    obtain ⟨e1, rfl⟩ := eVar_inv e
    obtain ⟨o, h1, v, rfl, r⟩ := s.each i _ e1
    exact ⟨v, h1, k v G H (Go.refl c) r⟩
/-- an own list, read as a value for a moment: the view has it then -/
def eC (d : PyData) : EG := fun _ ps => some (d, ps)
theorem pd_c {e : Expr} {v : V} {d : PyData} (h : PE X e (tC v)) (r : ∀ pp G, Rv X.K pp G v d) : PD X e (eC d) := pe_imp h fun σ H Q ⟨pp, ps, G, S, d', ps', c, s, e, k⟩ => by
  cases e
  exact k v G H (Go.refl c) (r pp G)
theorem pd_int {i : Int} {j : Nat} {pos : Pos} : PD X (.Constant (.int i) j pos) (eC (.int i)) := pd_c pe_int fun _ _ => .int i
theorem pd_str {x : Str} {j : Nat} {pos : Pos} : PD X (.Constant (.str x) j pos) (eC (.str x)) := pd_c pe_str fun _ _ => .str x
theorem pd_bl {b : Bool} {j : Nat} {pos : Pos} : PD X (.Constant (.bool b) j pos) (eC (.bool b)) := pd_c pe_bl fun _ _ => .bl b
theorem pd_non {j : Nat} {pos : Pos} : PD X (.Constant .none j pos) (eC .none) := pd_c pe_non fun _ _ => .non

/-! ### argument lists, tuples, lists -/
def aNil : AG := fun _ ps => some ([], ps)
def aCons (g : EG) (gs : AG) : AG := fun S ps => bindP (g S ps) fun d p => bindP (gs S p) fun ds p' => some (d :: ds, p')
theorem pda_nil : PDA X [] aNil := pa_imp pa_nil fun σ H Q ⟨pp, ps, G, S, d, ps', c, s, e, k⟩ => by
  cases e
  exact k [] G H (Go.refl c) .nil
theorem pda_cons {e : Expr} {es : List Expr} {g : EG} {gs : AG} (h : PD X e g) (hs : PDA X es gs) (hst : starEach (e :: es) X.env = (false, eval e X.env) :: starEach es X.env := by rfl) : PDA X (e :: es) (aCons g gs) :=
  pa_imp (pa_cons h hs hst) fun σ H Q ⟨pp, ps, G, S, d, ps', c, s, e, k⟩ => by
    obtain ⟨d1, p1, e1, e⟩ := bindP_inv e
    obtain ⟨d2, p2, e2, e⟩ := bindP_inv e
    cases e
    exact ⟨pp, ps, G, S, d1, p1, c, s, e1, fun v G1 H1 g1 r1 => ⟨pp, p1, G1, S, d2, _, g1.cf, s.go g1, e2, fun vs G2 H2 g2 r2 => k _ G2 H2 (g1.trans g2) (.cons (Rv.mono g2.gg _ _ r1) r2)⟩⟩
def fitsL (ds : List PyData) : Bool := decide (ds.length ≤ 16777216)
theorem fits_size {ds : List PyData} (h : fitsL ds = true) : ds.length ≤ sizeLine := by
  have h1 : ds.length ≤ 16777216 := of_decide_eq_true h
  rw [sizeLine_eq]
  exact h1
def eTup (gs : AG) : EG := fun S ps => bindP (gs S ps) fun ds p => if fitsL ds then some (.tuple ds, p) else none
def eLst (gs : AG) : EG := fun S ps => bindP (gs S ps) fun ds p => if fitsL ds then some (.list ds, p) else none
theorem ite_inv {α : Type} {b : Bool} {x z : α} (h : (if b = true then some x else none) = some z) : b = true ∧ x = z := by
  cases b with
  | true => exact ⟨rfl, Option.some.inj h⟩
  | false => cases h
theorem pd_tup {es : List Expr} {gs : AG} {x1 : Nat} {pos : Pos} (h : PDA X es gs) : PD X (.Tuple es x1 pos) (eTup gs) := pe_imp (pe_tup h) fun σ H Q ⟨pp, ps, G, S, d, ps', c, s, e, k⟩ => by
  obtain ⟨ds, p1, e1, e⟩ := bindP_inv e
  obtain ⟨hf, e⟩ := ite_inv e
  cases e
  refine ⟨pp, ps, G, S, ds, ps', c, s, e1, fun vs G1 H1 g1 r1 => ⟨by rw [r1.length]; exact fits_size hf, fun p hp => ?_⟩⟩
  have gl : Go pp ps' [] G1 H1 (upd G1 p (.tup vs)) (upd H1 p (.tup vs)) := Go.lay g1.cf hp
  exact k _ _ _ (g1.trans gl) (.tup (.inl (.inl upd_same)) (RvL.mono gl.gg _ _ r1))
theorem pd_lst {es : List Expr} {gs : AG} {pos : Pos} (h : PDA X es gs) : PD X (.List es pos) (eLst gs) := pe_imp (pe_lst h) fun σ H Q ⟨pp, ps, G, S, d, ps', c, s, e, k⟩ => by
  obtain ⟨ds, p1, e1, e⟩ := bindP_inv e
  obtain ⟨hf, e⟩ := ite_inv e
  cases e
  refine ⟨pp, ps, G, S, ds, ps', c, s, e1, fun vs G1 H1 g1 r1 => ⟨by rw [r1.length]; exact fits_size hf, fun p hp => ?_⟩⟩
  have gl : Go pp ps' [] G1 H1 (upd G1 p (.lst vs)) (upd H1 p (.lst vs)) := Go.lay g1.cf hp
  exact k _ _ _ (g1.trans gl) (.lst (.inl upd_same) (RvL.mono gl.gg _ _ r1))

/-! ### operators, comparisons, subscripts -/
def eOp (o : PyData → PyData → Option PyData) (ga gb : EG) : EG := fun S ps => bindP (ga S ps) fun x p => bindP (gb S p) fun y p' => (o x y).map fun d => (d, p')
theorem map_inv {α β : Type} {r : Option α} {f : α → β} {z : β} (h : r.map f = some z) : ∃ a, r = some a ∧ f a = z := by
  cases r with
  | none => cases h
  | some a => exact ⟨a, rfl, Option.some.inj h⟩
theorem tOp_D {o : PyData → PyData → Option PyData} {ga gb : EG} (σ : L2.St) (H : Hp) (Q : VK) (h : TD X.K (eOp o ga gb) σ H Q) : tOp (rD2 X.K o) (TD X.K ga) (TD X.K gb) σ H Q := by
  obtain ⟨pp, ps, G, S, d, ps', c, s, e, k⟩ := h
  obtain ⟨x, p1, e1, e⟩ := bindP_inv e
  obtain ⟨y, p2, e2, e⟩ := bindP_inv e
  obtain ⟨d', e3, e⟩ := map_inv e
  cases e
  exact ⟨pp, ps, G, S, x, p1, c, s, e1, fun v G1 H1 g1 r1 => ⟨pp, p1, G1, S, y, _, g1.cf, s.go g1, e2, fun w G2 H2 g2 r2 => ⟨pp, _, G2, x, y, d, g2.cf, Rv.mono g2.gg _ _ r1, r2, e3, fun z G3 H3 g3 r3 => k z G3 H3 ((g1.trans g2).trans g3) r3⟩⟩⟩
abbrev OpD (X : Cx) (f : Value → Value → Sem Value) (o : PyData → PyData → Option PyData) : Prop := OpR X f (rD2 X.K o)
theorem pd_op {a b : Expr} {op : Operator} {ga gb : EG} {pos : Pos} {o : PyData → PyData → Option PyData} (ho : OpD X (binaryOp op) o) (ha : PD X a ga) (hb : PD X b gb) : PD X (.BinOp a op b pos) (eOp o ga gb) :=
  pe_imp (pe_op ho ha hb) tOp_D
theorem pd_cmp {a b : Expr} {op : CmpOp} {ga gb : EG} {pos : Pos} {o : PyData → PyData → Option PyData} (ho : OpD X (compareOp op) o) (ha : PD X a ga) (hb : PD X b gb) (hm : behindInMarks op b = false) : PD X (.Compare a [op] [b] pos) (eOp o ga gb) :=
  pe_imp (pe_cmpR ho ha hb hm) tOp_D
theorem pd_ix {a b : Expr} {ga gb : EG} {pos : Pos} {o : PyData → PyData → Option PyData} (ho : IxR X (rD2 X.K o)) (hs : PlainIx b) (ha : PD X a ga) (hb : PD X b gb) : PD X (.Subscript a b pos) (eOp o ga gb) :=
  pe_imp (pe_ix ho ha hb hs) tOp_D
def eUn (o : PyData → Option PyData) (g : EG) : EG := fun S ps => bindP (g S ps) fun x p => (o x).map fun d => (d, p)

/-! ### tests -/
def asB (g : EG) : BG := fun S ps => match g S ps with
  | some (.bool b, p) => some (b, p)
  | _ => none
theorem asB_inv {g : EG} {S : Sd} {ps ps' : Pt} {b : Bool} (h : asB g S ps = some (b, ps')) : g S ps = some (.bool b, ps') := by
  unfold asB at h
  split at h
  · next b' p e =>
    cases h
    exact e
  · cases h
theorem pdt_val {e : Expr} {g : EG} (h : PD X e g) (he : ∀ whole, isTrue e X.env whole = (do let v ← whole; standAt e.pos; holding [v] (truthy v)) := by intro _; rfl) : PDT X e (asB g) :=
  pt_imp (pt_val h he) fun σ H Q ⟨pp, ps, G, S, b, ps', c, s, e, k⟩ => ⟨pp, ps, G, S, _, ps', c, s, asB_inv e, fun v G' H' g' r => ⟨b, rv_bl r, k G' H' g'⟩⟩
theorem pdt_cmp {a b : Expr} {op : CmpOp} {ga gb : EG} {pos : Pos} {o : PyData → PyData → Option PyData} (ho : OpD X (compareOp op) o) (ha : PD X a ga) (hb : PD X b gb) (hm : behindInMarks op b = false) : PDT X (.Compare a [op] [b] pos) (asB (eOp o ga gb)) :=
  pt_imp (pt_cmpR ho ha hb hm) fun σ H Q ⟨pp, ps, G, S, b, ps', c, s, e, k⟩ => tOp_D σ H _ ⟨pp, ps, G, S, _, ps', c, s, asB_inv e, fun v G' H' g' r => ⟨b, rv_bl r, k G' H' g'⟩⟩
def bNot (g : BG) : BG := fun S ps => bindP (g S ps) fun b p => some (!b, p)
def bAnd (g h : BG) : BG := fun S ps => bindP (g S ps) fun b p => if b then h S p else some (false, p)
def bOr (g h : BG) : BG := fun S ps => bindP (g S ps) fun b p => if b then some (true, p) else h S p
theorem pdt_not {a : Expr} {g : BG} {pos : Pos} (h : PDT X a g) : PDT X (.UnaryOp .Not a pos) (bNot g) := pt_imp (pt_not h) fun σ H Q ⟨pp, ps, G, S, b, ps', c, s, e, k⟩ => by
  obtain ⟨x, p1, e1, e⟩ := bindP_inv e
  cases e
  exact ⟨pp, ps, G, S, x, _, c, s, e1, k⟩
theorem pdw_and1 {a : Expr} {g : BG} {pos : Pos} (h : PDT X a g) : PDW X (.BoolOp .And [a] pos) g := pw_and1 h
theorem pdw_or1 {a : Expr} {g : BG} {pos : Pos} (h : PDT X a g) : PDW X (.BoolOp .Or [a] pos) g := pw_or1 h
theorem pdw_and {a b : Expr} {rest : List Expr} {g h : BG} {pos : Pos} (ha : PDT X a g) (hb : PDW X (.BoolOp .And (b :: rest) pos) h) : PDW X (.BoolOp .And (a :: b :: rest) pos) (bAnd g h) :=
  pw_imp (pw_and ha hb) fun σ H Q ⟨pp, ps, G, S, b, ps', c, s, e, k⟩ => by
    obtain ⟨x, p1, e1, e⟩ := bindP_inv e
    refine ⟨pp, ps, G, S, x, p1, c, s, e1, fun G1 H1 g1 => ?_⟩
    cases x with
    | true => exact ⟨pp, p1, G1, S, b, ps', g1.cf, s.go g1, e, fun G2 H2 g2 => k G2 H2 (g1.trans g2)⟩
    | false =>
      cases e
      exact k G1 H1 g1
theorem pdw_or {a b : Expr} {rest : List Expr} {g h : BG} {pos : Pos} (ha : PDT X a g) (hb : PDW X (.BoolOp .Or (b :: rest) pos) h) : PDW X (.BoolOp .Or (a :: b :: rest) pos) (bOr g h) :=
  pw_imp (pw_or ha hb) fun σ H Q ⟨pp, ps, G, S, b, ps', c, s, e, k⟩ => by
    obtain ⟨x, p1, e1, e⟩ := bindP_inv e
    refine ⟨pp, ps, G, S, x, p1, c, s, e1, fun G1 H1 g1 => ?_⟩
    cases x with
    | false => exact ⟨pp, p1, G1, S, b, ps', g1.cf, s.go g1, e, fun G2 H2 g2 => k G2 H2 (g1.trans g2)⟩
    | true =>
      cases e
      exact k G1 H1 g1
/-- bools as values -/
def eB (g : BG) : EG := fun S ps => bindP (g S ps) fun b p => some (.bool b, p)
def eAndV (ga gb : EG) : EG := fun S ps => match ga S ps with
  | some (.bool true, p) => gb S p
  | some (.bool false, p) => some (.bool false, p)
  | _ => none
def eOrV (ga gb : EG) : EG := fun S ps => match ga S ps with
  | some (.bool true, p) => some (.bool true, p)
  | some (.bool false, p) => gb S p
  | _ => none
def eNotV (g : EG) : EG := fun S ps => match g S ps with
  | some (.bool b, p) => some (.bool (!b), p)
  | _ => none
theorem pd_one {op : BoolOp} {a : Expr} {g : EG} {pos : Pos} (h : PD X a g) : PD X (.BoolOp op [a] pos) g := pe_one h
theorem pd_and {a b : Expr} {rest : List Expr} {ga gb : EG} {pos : Pos} (ha : PD X a ga) (hb : PD X (.BoolOp .And (b :: rest) pos) gb) : PD X (.BoolOp .And (a :: b :: rest) pos) (eAndV ga gb) :=
  pe_imp (pe_and ha hb) fun σ H Q ⟨pp, ps, G, S, d, ps', c, s, e, k⟩ => by
    unfold eAndV at e
    split at e
    · next p e1 => exact ⟨pp, ps, G, S, _, p, c, s, e1, fun v G1 H1 g1 r1 => ⟨true, rv_bl r1, iteT ⟨pp, p, G1, S, d, ps', g1.cf, s.go g1, e, fun w G2 H2 g2 r2 => k w G2 H2 (g1.trans g2) r2⟩⟩⟩
    · next p e1 =>
      cases e
      exact ⟨pp, ps, G, S, _, _, c, s, e1, fun v G1 H1 g1 r1 => ⟨false, rv_bl r1, iteF (k _ G1 H1 g1 (.bl false))⟩⟩
    · cases e
theorem pd_or {a b : Expr} {rest : List Expr} {ga gb : EG} {pos : Pos} (ha : PD X a ga) (hb : PD X (.BoolOp .Or (b :: rest) pos) gb) : PD X (.BoolOp .Or (a :: b :: rest) pos) (eOrV ga gb) :=
  pe_imp (pe_or ha hb) fun σ H Q ⟨pp, ps, G, S, d, ps', c, s, e, k⟩ => by
    unfold eOrV at e
    split at e
    · next p e1 =>
      cases e
      exact ⟨pp, ps, G, S, _, _, c, s, e1, fun v G1 H1 g1 r1 => ⟨true, rv_bl r1, iteT (k _ G1 H1 g1 (.bl true))⟩⟩
    · next p e1 => exact ⟨pp, ps, G, S, _, p, c, s, e1, fun v G1 H1 g1 r1 => ⟨false, rv_bl r1, iteF ⟨pp, p, G1, S, d, ps', g1.cf, s.go g1, e, fun w G2 H2 g2 r2 => k w G2 H2 (g1.trans g2) r2⟩⟩⟩
    · cases e
theorem pd_not {a : Expr} {g : EG} {pos : Pos} (h : PD X a g) : PD X (.UnaryOp .Not a pos) (eNotV g) := pe_imp (pe_not h) fun σ H Q ⟨pp, ps, G, S, d, ps', c, s, e, k⟩ => by
  unfold eNotV at e
  split at e
  · next b p e1 =>
    cases e
    exact ⟨pp, ps, G, S, _, _, c, s, e1, fun v G1 H1 g1 r1 => ⟨b, rv_bl r1, k _ G1 H1 g1 (.bl _)⟩⟩
  · cases e
def eIf (t : BG) (ga gb : EG) : EG := fun S ps => bindP (t S ps) fun b p => if b then ga S p else gb S p
theorem pd_if {t a b : Expr} {gt : BG} {ga gb : EG} {pos : Pos} (ht : PDT X t gt) (ha : PD X a ga) (hb : PD X b gb) : PD X (.IfExp t a b pos) (eIf gt ga gb) :=
  pe_imp (pe_ifExp ht ha hb) fun σ H Q ⟨pp, ps, G, S, d, ps', c, s, e, k⟩ => by
    obtain ⟨x, p1, e1, e⟩ := bindP_inv e
    refine ⟨pp, ps, G, S, x, p1, c, s, e1, fun G1 H1 g1 => ?_⟩
    cases x with
    | true => exact iteT ⟨pp, p1, G1, S, d, ps', g1.cf, s.go g1, e, fun v G2 H2 g2 r2 => k v G2 H2 (g1.trans g2) r2⟩
    | false => exact iteF ⟨pp, p1, G1, S, d, ps', g1.cf, s.go g1, e, fun v G2 H2 g2 r2 => k v G2 H2 (g1.trans g2) r2⟩

/-! ### calls -/
def eCall (f : List PyData → Pt → Option (PyData × Pt)) (gs : AG) : EG := fun S ps => bindP (gs S ps) fun ds p => f ds p
def eCB (f : List PyData → Option PyData) (gs : AG) : EG := fun S ps => bindP (gs S ps) fun ds p => (f ds).map fun d => (d, p)
/-- a def's promise: called with such data it gives what fn says -/
def spD (K : PySem.W.Frag) (n : Nat) (fn : List PyData → Pt → Option (PyData × Pt)) : Sp := fun vs H Q _ => ∃ (pp : Option Addr) (ps : Pt) (G : Hp) (ds : List PyData) (d : PyData) (ps' : Pt), ds.length = n ∧ Cf pp ps G H ∧ RvL K pp G vs ds ∧ fn ds ps = some (d, ps') ∧
  ∀ v G' H', Go pp ps' [] G H G' H' → Rv K pp G' v d → Q v H'
/-- room to go on, and no text of a thing is being written -/
structure Rm (k : Nat) (A : Around) : Prop where
  rm : Room k A
  gd : A.guards = some []
theorem Rm.mono {j k : Nat} {A : Around} (r : Rm k A) (h : j ≤ k) : Rm j A := ⟨r.rm.mono h, r.gd⟩
theorem Rm.un {k : Nat} {A : Around} (r : Rm k A) : A.units + 16 * k + 200 < cLine := r.rm.un
theorem Rm.dp {k : Nat} {A : Around} (r : Rm k A) : A.depth + 3 * k + 5 < recursionLimit := r.rm.dp
theorem Rm.hd {k : Nat} {A : Around} (r : Rm k A) : A.handled = none := r.rm.hd
theorem Rm.dpr {k : Nat} {A : Around} (r : Rm (k + 1) A) (env : Env) : Rm k (A.deeper env) := ⟨r.rm.deeper env, r.gd⟩
theorem Rm.in2 {k : Nat} {A : Around} (r : Rm (k + 1) A) : Rm k A.in1.in1 := ⟨⟨r.hd, by
    have := r.dp
    show A.depth + 3 * k + 5 < _
    omega, by
    have := r.un
    show A.units + 1 + 1 + 16 * k + 200 < _
    omega⟩, r.gd⟩
/-- a def's promise, where no text of a thing is being written -/
structure FnG (P : Program) (w : World) (K : PySem.W.Frag) (mg : Str → Option Value) (base : Heap) (k : Nat) (f : Addr) (fd : FuncData) (ps : List Str) (sp : Sp) : Prop where
  len : ∀ vs H Q E, sp vs H Q E → vs.length = ps.length
  go : ∀ (A : Around) (out : List Env) (s : Shared) (H : Hp) (as : Args) (us : List Value) (vs : List V) (Q : VK) (E : XK), Rm k A → Env0 P w K mg base A out s H → BindsTo s fd as (ps.zip us) → Vals vs us → sp vs H Q E → codeAny (model P w) A (.call (.ref f) as) (CR CX0 out P w H s Q E) s
theorem FnG.lift {P : Program} {w : World} {K : PySem.W.Frag} {mg : Str → Option Value} {base : Heap} {j k : Nat} {f : Addr} {fd : FuncData} {ps : List Str} {sp : Sp} (F : FnG P w K mg base j f fd ps sp) (h : j ≤ k) : FnG P w K mg base k f fd ps sp :=
  ⟨F.len, fun A out s H as us vs Q E r => F.go A out s H as us vs Q E (r.mono h)⟩
theorem ce_end {Xc : Cx} {pins : List (Addr × Obj)} {σ : L2.St} {H : Hp} {s s' : Shared} {Q : VK} {E : XK} {r : Result} (J : Inv Xc pins σ H s) (h : CR CX0 Xc.stack Xc.prog Xc.w H s Q E r s') : ∃ u, r = .ok (.ret u) ∧ EP Xc pins σ Q u s' := by
  cases r with
  | error e => exact False.elim h
  | ok fl =>
    cases fl with
    | ret u => exact ⟨u, rfl, J.after h⟩
    | next => exact False.elim h
    | brk => exact False.elim h
    | cont => exact False.elim h
/-- such a def called with positional values -/
theorem call_g {k : Nat} {f : Addr} {fd : FuncData} {qs : List Str} {sp : Sp} (F : FnG X.prog X.w X.K X.mg X.base k f fd qs sp) (hr : Rm k X.A) (hb : Binds X.K fd qs []) {pins : List (Addr × Obj)} {σ : L2.St} {H : Hp} {s : Shared} {Q : VK} {us : List Value} {vs : List V} (J : Inv X pins σ H s) (rv : Vals vs us) (h : sp vs H Q E0) :
    wpAny (model X.prog X.w) X.A (call (.ref f) us) (EP X pins σ Q) X.xe s := by
  have hl : us.length = qs.length := by
    rw [← rv.length]
    exact F.len _ _ _ _ h
  have hbt := hb s us J.kIn (by simpa using hl)
  rw [List.append_nil] at hbt
  refine wpAny_call (codeAny_mono (F.go X.A X.stack s H ⟨us, []⟩ us vs Q E0 hr J.env0 hbt rv h) fun res s' hq => ?_)
  obtain ⟨u, rfl, hu⟩ := ce_end J hq
  exact hu
theorem pe_callG {k : Nat} {f : Addr} {fd : FuncData} {qs : List Str} {sp : Sp} {x : Str} {p pos : Pos} {e : Expr} {es : List Expr} {t : TA} (F : FnG X.prog X.w X.K X.mg X.base k f fd qs sp) (hr : Rm k X.A) (hg : Gl X x) (hm : X.mg x = some (.ref f)) (hk : PySem.W.keepIn X.K (.ref f) = true) (hb : Binds X.K fd qs []) (ha : PA X (e :: es) t)
    (hdb : (x == ("__debug__" : Str)) = false := by decide) (he : starEach (e :: es) X.env = (false, eval e X.env) :: starEach es X.env := by rfl) (hpl : (backTo pos (starEach es X.env)).any (·.1) = false := by rfl) :
    PE X (.Call (.Name x p) (e :: es) [] pos) (fun σ H Q => t σ H fun vs H1 => sp vs H1 Q E0) := by
  constructor
  intro pins s σ H Q J h
  apply wpAny_Call_Name_kw
  apply ld_glob J hg hm (hd := hdb)
  exact PySem.W.callWith_K (h₀ := X.base) J.ok.mod.kin hk (thn (ha.run pos pins s σ H _ J h) fun us s1 ⟨vs, H1, J1, rv, q⟩ => ⟨J1.kIn, call_g F hr hb J1 rv q⟩) he hpl
theorem pe_callG0 {k : Nat} {f : Addr} {fd : FuncData} {sp : Sp} {x : Str} {p pos : Pos} (F : FnG X.prog X.w X.K X.mg X.base k f fd [] sp) (hr : Rm k X.A) (hg : Gl X x) (hm : X.mg x = some (.ref f)) (hk : PySem.W.keepIn X.K (.ref f) = true) (hb : Binds X.K fd [] [])
    (hdb : (x == ("__debug__" : Str)) = false := by decide) : PE X (.Call (.Name x p) [] [] pos) (fun σ H Q => sp [] H Q E0) := by
  constructor
  intro pins s σ H Q J h
  apply wpAny_Call_Name_kw
  apply ld_glob J hg hm (hd := hdb)
  exact PySem.W.callWith_K0 J.kIn hk (call_g F hr hb J .nil h)
/-- arguments in another order -/
def permL {α : Type} (is : List Nat) (xs : List α) : List α := is.filterMap fun i => xs[i]?
theorem vals_get : ∀ {vs : List V} {us : List Value} (i : Nat), Vals vs us → (vs[i]? = none ∧ us[i]? = none) ∨ ∃ v u, vs[i]? = some v ∧ us[i]? = some u ∧ RelV v u
  | _, _, i, .nil => .inl ⟨by simp, by simp⟩
  | _, _, 0, .cons r _ => .inr ⟨_, _, rfl, rfl, r⟩
  | _, _, i + 1, .cons _ t => by
    simp only [List.getElem?_cons_succ]
    exact vals_get i t
theorem vals_perm {vs : List V} {us : List Value} (r : Vals vs us) : ∀ is : List Nat, Vals (permL is vs) (permL is us)
  | [] => .nil
  | i :: is => by
    rcases vals_get i r with ⟨e1, e2⟩ | ⟨v, u, e1, e2, h⟩
    · have h1 : permL (i :: is) vs = permL is vs := by simp [permL, e1]
      have h2 : permL (i :: is) us = permL is us := by simp [permL, e2]
      rw [h1, h2]
      exact vals_perm r is
    · have h1 : permL (i :: is) vs = v :: permL is vs := by simp [permL, e1]
      have h2 : permL (i :: is) us = u :: permL is us := by simp [permL, e2]
      rw [h1, h2]
      exact .cons h (vals_perm r is)
/-- with keywords alone: ks in the order in which they are written -/
theorem pe_callGK {k : Nat} {f : Addr} {fd : FuncData} {qs ks : List Str} {is : List Nat} {sp : Sp} {x : Str} {p pos : Pos} {kws : List Keyword} {tk : TA} (F : FnG X.prog X.w X.K X.mg X.base k f fd qs sp) (hr : Rm k X.A) (hg : Gl X x) (hm : X.mg x = some (.ref f)) (hk : PySem.W.keepIn X.K (.ref f) = true)
    (hb : ∀ (s : Shared) (ws : List Value), ws.length = ks.length → BindsTo s fd ⟨[], ks.zip ws⟩ (qs.zip (permL is ws))) (hkw : PK X kws tk) (hlen : ∀ σ H Q, tk σ H Q → tk σ H fun zs H1 => zs.length = ks.length ∧ Q zs H1) (hall : (backToKw pos (keywordEach kws X.env)).all (·.1.isSome) = true := by rfl) (hks : (backToKw pos (keywordEach kws X.env)).filterMap (·.1) = ks := by rfl)
    (hdb : (x == ("__debug__" : Str)) = false := by decide) (hpl : ((backTo pos (starEach [] X.env)).any (·.1) || (backToKw pos (keywordEach kws X.env)).any (·.1.isNone)) = false := by rfl) :
    PE X (.Call (.Name x p) [] kws pos) (fun σ H Q => tk σ H fun zs H1 => sp (permL is zs) H1 Q E0) := by
  constructor
  intro pins s σ H Q J h
  apply wpAny_Call_Name_kw
  apply ld_glob J hg hm (hd := hdb)
  refine PySem.W.callWith_KW0 (h₀ := X.base) J.ok.mod.kin hk hall (thn (hkw.run pos pins s σ H _ J (hlen _ _ _ h)) fun ws s1 ⟨zs, H1, J1, rz, hl, q⟩ => ⟨J1.kIn, ?_⟩) hpl
  rw [hks]
  have hw : ws.length = ks.length := by rw [← rz.length]; exact hl
  refine wpAny_call (codeAny_mono (F.go X.A X.stack s1 H1 ⟨[], ks.zip ws⟩ (permL is ws) (permL is zs) Q E0 hr J1.env0 (hb s1 ws hw) (vals_perm rz is) q) fun res s' hq => ?_)
  obtain ⟨u, rfl, hu⟩ := ce_end J1 hq
  exact hu
/-- a def's body keeps the promise -/
theorem of_g {P : Program} {w : World} {K : PySem.W.Frag} {mg : Str → Option Value} {base : Heap} {k : Nat} {f : Addr} {name qual : Str} {params : Arguments} {body : List Stmt} {scope : Scope} {dV kV doc pm cdv ct oc : Value} {an od : Option Addr} {osl : Array (Option Value)} {N ps : List Str} {sp : Sp}
    (lk : K.lookup f = some ⟨oc, od, .func (PySem.W.fnOf name qual params body scope dV kV doc pm an cdv ct), osl⟩) (hcd : PySem.W.codeIn K cdv qual = true) (S : FnScope N ps scope) (len : ∀ vs H Q E, sp vs H Q E → vs.length = ps.length)
    (hbd : ∀ (A : Around) (out : List Env) (s : Shared) (H : Hp) (vs : List V) (Q : VK) (E : XK), Rm k (A.deeper (PyProof.Rows.envOfC qual scope s.heap.objs.size f cdv)) → sp vs H Q E → ∃ t, PSs (cxOf CX0 P w K mg base N qual scope f cdv A out s H E).nox body t ∧ t { nx := fun _ H' => Q .non H', rt := Q } (start N vs) H) :
    FnG P w K mg base (k + 1) f (PySem.W.fnOf name qual params body scope dV kV doc pm an cdv ct) ps sp := by
  refine ⟨len, ?_⟩
  intro A out s H as us vs Q E hr e0 hb rv hsp
  have hin : K.In s.heap := e0.mod.kin.keeps fun b o z => (e0.bs b o z).1
  have hlim : s.heap.NoLimit := e0.mod.nolimit.keeps fun b o z => (e0.bs b o z).1
  have kd : ∀ y ∈ ps.zip us, scope.names.lookup y.1 = some .local ∨ (scope.names.lookup y.1 = some .cell ∧ ((cellsFrom (s.heap.objs.size + 1) scope.names []).lookup y.1).isSome = true) := by
    rintro ⟨n, v⟩ hy
    rcases S.par n (List.of_mem_zip hy).1 with z | z
    · exact .inl z
    · exact .inr ⟨z, PySem.W.cellsFrom_some _ _ _ (.inl z)⟩
  apply codeAny_call_function hr.rm.depth (hin _ _ lk) rfl S.co S.gen rfl (PySem.W.codeRec_of hin hcd)
  apply hb
  apply wpAny_newFunctionEnv_cells S.kind kd
  intro env henv s1 xs
  subst henv
  refine ⟨hlim.keeps xs.toInCall.keep, codeAny_func ?_⟩
  obtain ⟨t, ht, hq⟩ := hbd A out s H vs Q E (hr.dpr _) hsp
  have J := inv_start (CX := CX0) (E := E) (N := N) S hr.hd e0 (len _ _ _ _ hsp) rv xs
  refine wpAny_mono (ht.nox.run [] s1 (start N vs) H _ J hq) (fun fl s' hs => ?_) fun e s' hs => hs
  cases fl with
  | ret u =>
    obtain ⟨v, σ1, H1, J1, r1, q1⟩ := hs
    exact ⟨v, H1, J1.os, J1.bare, J1.base, J1.hok, r1, q1⟩
  | next =>
    obtain ⟨σ1, H1, J1, q1⟩ := hs
    exact ⟨.non, H1, J1.os, J1.bare, J1.base, J1.hok, rfl, q1⟩
  | brk =>
    obtain ⟨_, _, _, q1⟩ := hs
    exact False.elim q1
  | cont =>
    obtain ⟨_, _, _, q1⟩ := hs
    exact False.elim q1
theorem ok_g {P : Program} {w : World} {K : PySem.W.Frag} {mg : Str → Option Value} {base : Heap} {x qual : Str} {st : Stmt} {f : Addr} {fd : FuncData} {N ps : List Str} {k : Nat} {sp : Sp} (F : Fun K x qual st f fd) (S : FnScope N ps (defScope st)) (len : ∀ vs H Q E, sp vs H Q E → vs.length = ps.length)
    (hbd : ∀ (cdv : Value) (A : Around) (out : List Env) (s : Shared) (H : Hp) (vs : List V) (Q : VK) (E : XK), Rm k (A.deeper (PyProof.Rows.envOfC qual (defScope st) s.heap.objs.size f cdv)) → sp vs H Q E →
      ∃ t, PSs (cxOf CX0 P w K mg base N qual (defScope st) f cdv A out s H E).nox (defBody st) t ∧ t { nx := fun _ H' => Q .non H', rt := Q } (start N vs) H) : FnG P w K mg base (k + 1) f fd ps sp := by
  obtain ⟨oc, od, kV, doc, pm, an, cdv, ct, osl, rfl, lk, hcd⟩ := F.ex
  exact of_g lk hcd S len fun A out s H vs Q E hr hsp => hbd cdv A out s H vs Q E hr hsp
abbrev FnD (P : Program) (w : World) (K : PySem.W.Frag) (mg : Str → Option Value) (base : Heap) (k : Nat) (f : Addr) (fd : FuncData) (ps : List Str) (fn : List PyData → Pt → Option (PyData × Pt)) : Prop := FnG P w K mg base k f fd ps (spD K ps.length fn)
theorem aCons_len {gs : AG} {S : Sd} {ps p : Pt} {ds : List PyData} (n : Nat) (h : gs S ps = some (ds, p)) (hl : ∀ S ps ds p, gs S ps = some (ds, p) → ds.length = n) : ds.length = n := hl S ps ds p h
theorem pd_call {k : Nat} {f : Addr} {fd : FuncData} {qs : List Str} {fn : List PyData → Pt → Option (PyData × Pt)} {x : Str} {p pos : Pos} {e : Expr} {es : List Expr} {gs : AG} (F : FnD X.prog X.w X.K X.mg X.base k f fd qs fn) (hr : Rm k X.A) (hg : Gl X x) (hm : X.mg x = some (.ref f))
    (hk : PySem.W.keepIn X.K (.ref f) = true) (hb : Binds X.K fd qs []) (ha : PDA X (e :: es) gs) (hl : ∀ S ps ds p, gs S ps = some (ds, p) → ds.length = qs.length) (hdb : (x == ("__debug__" : Str)) = false := by decide)
    (he : starEach (e :: es) X.env = (false, eval e X.env) :: starEach es X.env := by rfl) (hpl : (backTo pos (starEach es X.env)).any (·.1) = false := by rfl) : PD X (.Call (.Name x p) (e :: es) [] pos) (eCall fn gs) :=
  pe_imp (pe_callG F hr hg hm hk hb ha hdb he hpl) fun σ H Q ⟨pp, ps, G, S, d, ps', c, s, e, k⟩ => by
    obtain ⟨ds, p1, e1, e⟩ := bindP_inv e
    refine ⟨pp, ps, G, S, ds, p1, c, s, e1, fun vs G1 H1 g1 r1 => ?_⟩
    exact ⟨pp, p1, G1, ds, d, ps', hl _ _ _ _ e1, g1.cf, r1, e, fun v G2 H2 g2 r2 => k v G2 H2 (g1.trans g2) r2⟩
theorem tCB_D {o : List PyData → Option PyData} {gs : AG} (σ : L2.St) (H : Hp) (Q : VK) (h : TD X.K (eCB o gs) σ H Q) : tCB (rDL X.K o) (TDA X.K gs) σ H Q := by
  obtain ⟨pp, ps, G, S, d, ps', c, s, e, k⟩ := h
  obtain ⟨ds, p1, e1, e⟩ := bindP_inv e
  obtain ⟨d', e2, e⟩ := map_inv e
  cases e
  exact ⟨pp, ps, G, S, ds, _, c, s, e1, fun vs G1 H1 g1 r1 => ⟨pp, _, G1, ds, d, g1.cf, r1, e2, fun v G2 H2 g2 r2 => k v G2 H2 (g1.trans g2) r2⟩⟩
theorem pd_callB {id : String} {x : Str} {p pos : Pos} {e : Expr} {es : List Expr} {gs : AG} {o : List PyData → Option PyData} (hc : CallR X (.builtin id) (rDL X.K o)) (hg : Gl X x) (hm : X.mg x = none) (hv : bootBuiltins x = some (.builtin id)) (ha : PDA X (e :: es) gs)
    (hn : x ≠ "__name__" := by decide) (hdb : (x == ("__debug__" : Str)) = false := by decide) (he : starEach (e :: es) X.env = (false, eval e X.env) :: starEach es X.env := by rfl) (hpl : (backTo pos (starEach es X.env)).any (·.1) = false := by rfl) :
    PD X (.Call (.Name x p) (e :: es) [] pos) (eCB o gs) := pe_imp (pe_callB hc hg hm hv ha hn hdb he hpl) tCB_D
theorem pd_callTy {T : String} {x : Str} {p pos : Pos} {e : Expr} {es : List Expr} {gs : AG} {o : List PyData → Option PyData} (hc : CallR X (.type T) (rDL X.K o)) (hg : Gl X x) (hm : X.mg x = none) (hv : bootBuiltins x = some (.type T)) (ha : PDA X (e :: es) gs)
    (hn : x ≠ "__name__" := by decide) (hdb : (x == ("__debug__" : Str)) = false := by decide) (he : starEach (e :: es) X.env = (false, eval e X.env) :: starEach es X.env := by rfl) (hpl : (backTo pos (starEach es X.env)).any (·.1) = false := by rfl) :
    PD X (.Call (.Name x p) (e :: es) [] pos) (eCB o gs) := pe_imp (pe_callTy hc hg hm hv ha hn hdb he hpl) tCB_D
end
end DL

set_option Elab.async false
set_option linter.all false
set_option maxRecDepth 100000
/-! D-layer, part c: operators and built-in functions on data. -/
namespace DL
open PySem L2
variable [TBL]
section
variable {X : Cx}

theorem cf_l {pp : Option Addr} {ps : Pt} {G H : Hp} {K : PySem.W.Frag} {a : Addr} {xs : List V} (c : Cf pp ps G H) (h : Rd G a (.lst xs)) : SqL K H a xs := .inl (same_l c.ex h)
theorem cf_t {pp : Option Addr} {ps : Pt} {G H : Hp} {K : PySem.W.Frag} {a : Addr} {xs : List V} (c : Cf pp ps G H) (h : SqT K G a xs) : SqT K H a xs := same_t c.ex h

/-! ### ints -/
def onI2 (P : Int → Int → Bool) (f : Int → Int → PyData) : PyData → PyData → Option PyData
  | .int i, .int j => if P i j then some (f i j) else none
  | _, _ => none
theorem onI2_inv {P : Int → Int → Bool} {f : Int → Int → PyData} {x y d : PyData} (h : onI2 P f x y = some d) : ∃ i j, x = .int i ∧ y = .int j ∧ P i j = true ∧ f i j = d := by
  unfold onI2 at h
  split at h
  · next i j =>
    obtain ⟨h1, h2⟩ := ite_inv h
    exact ⟨i, j, rfl, rfl, h1, h2⟩
  · cases h
theorem opd_int {f : Value → Value → Sem Value} {C : Int → Int → Prop} {P : Int → Int → Bool} {F : Int → Int → Int} (h : OpR X f (rI C fun i j => .int (F i j))) (hc : ∀ i j, P i j = true → C i j) : OpD X f (onI2 P fun i j => .int (F i j)) := by
  intro pins s σ H x y v u Q I rx ry ⟨pp, ps, G, dx, dy, d, c, r1, r2, e, k⟩
  obtain ⟨i, j, rfl, rfl, hp, rfl⟩ := onI2_inv e
  cases r1
  cases r2
  exact h pins s σ H _ _ v u Q I rx ry ⟨i, j, rfl, rfl, hc i j hp, k _ G H (Go.refl c) (.int _)⟩
theorem opd_int0 {f : Value → Value → Sem Value} {F : Int → Int → Int} (h : OpR X f (rI0 fun i j => .int (F i j))) : OpD X f (onI2 (fun _ _ => true) fun i j => .int (F i j)) := by
  intro pins s σ H x y v u Q I rx ry ⟨pp, ps, G, dx, dy, d, c, r1, r2, e, k⟩
  obtain ⟨i, j, rfl, rfl, hp, rfl⟩ := onI2_inv e
  cases r1
  cases r2
  exact h pins s σ H _ _ v u Q I rx ry ⟨i, j, rfl, rfl, k _ G H (Go.refl c) (.int _)⟩
/-- one of two operations, by what it is of -/
def orD (o o' : PyData → PyData → Option PyData) (x y : PyData) : Option PyData := match o x y with
  | some d => some d
  | none => o' x y
theorem opd_or {f : Value → Value → Sem Value} {o o' : PyData → PyData → Option PyData} (h : OpD X f o) (h' : OpD X f o') : OpD X f (orD o o') := by
  intro pins s σ H x y v u Q I rx ry ⟨pp, ps, G, dx, dy, d, c, r1, r2, e, k⟩
  unfold orD at e
  split at e
  · next d' e1 =>
    cases e
    exact h pins s σ H x y v u Q I rx ry ⟨pp, ps, G, dx, dy, d, c, r1, r2, e1, k⟩
  · exact h' pins s σ H x y v u Q I rx ry ⟨pp, ps, G, dx, dy, d, c, r1, r2, e, k⟩
def addI : PyData → PyData → Option PyData := onI2 (fun _ _ => true) fun i j => .int (i + j)
def subI : PyData → PyData → Option PyData := onI2 (fun _ _ => true) fun i j => .int (i - j)
def mulI : PyData → PyData → Option PyData := onI2 (fun i j => decide (i.natAbs.log2 + j.natAbs.log2 < 1000000)) fun i j => .int (i * j)
def modI : PyData → PyData → Option PyData := onI2 (fun _ j => decide (0 < j)) fun i j => .int (i % j)
def fdivI : PyData → PyData → Option PyData := onI2 (fun _ j => decide (0 < j) && decide (j.natAbs.log2 < 9000)) fun i j => .int (i / j)
theorem opd_addI : OpD X (binaryOp .Add) addI := opd_int0 op_add
theorem opd_sub : OpD X (binaryOp .Sub) subI := opd_int0 op_sub
theorem opd_mul : OpD X (binaryOp .Mult) mulI := opd_int op_mulW fun i j h => (of_decide_eq_true h : i.natAbs.log2 + j.natAbs.log2 < 1000000)
theorem opd_mod : OpD X (binaryOp .Mod) modI := opd_int op_mod fun _ _ h => of_decide_eq_true h
theorem opd_fdiv : OpD X (binaryOp .FloorDiv) fdivI := opd_int op_fdivW fun _ _ h => by
  rw [Bool.and_eq_true] at h
  exact ⟨of_decide_eq_true h.1, of_decide_eq_true h.2⟩
/-! ### texts, lists, tuples joined -/
def addS : PyData → PyData → Option PyData
  | .str x, .str y => if decide (x.length + y.length ≤ 16777216) then some (.str (x ++ y)) else none
  | _, _ => none
def addL : PyData → PyData → Option PyData
  | .list x, .list y => if decide (x.length + y.length ≤ 16777216) then some (.list (x ++ y)) else none
  | _, _ => none
def addT : PyData → PyData → Option PyData
  | .tuple x, .tuple y => if decide (x.length + y.length ≤ 16777216) then some (.tuple (x ++ y)) else none
  | _, _ => none
theorem opd_addS : OpD X (binaryOp .Add) addS := by
  intro pins s σ H x y v u Q I rx ry ⟨pp, ps, G, dx, dy, d, c, r1, r2, e, k⟩
  unfold addS at e
  split at e
  · next a b =>
    obtain ⟨h1, rfl⟩ := ite_inv e
    cases r1
    cases r2
    exact op_add_str pins s σ H _ _ v u Q I rx ry ⟨a, b, rfl, rfl, by rw [sizeLine_eq]; exact of_decide_eq_true h1, k _ G H (Go.refl c) (.str _)⟩
  · cases e
theorem opd_addT : OpD X (binaryOp .Add) addT := by
  intro pins s σ H x y v u Q I rx ry ⟨pp, ps, G, dx, dy, d, c, r1, r2, e, k⟩
  unfold addT at e
  split at e
  · next a b =>
    obtain ⟨h1, rfl⟩ := ite_inv e
    obtain ⟨p, xs, rfl, hp, ha⟩ := rv_tup r1
    obtain ⟨q, ys, rfl, hq, hb⟩ := rv_tup r2
    have hx := ha.length
    have hy := hb.length
    refine op_catA pins s σ H _ _ v u Q I rx ry ⟨p, q, xs, ys, rfl, rfl, cf_t c hp, cf_t c hq, ?_, fun e0 => ?_, fun _ e0 => ?_, fun _ _ p' hp' => ?_⟩
    · rw [hx, hy, sizeLine_eq]
      exact of_decide_eq_true h1
    · subst e0
      cases ha
      exact k _ G H (Go.refl c) (.tup hq hb)
    · subst e0
      cases hb
      rw [List.append_nil] at k
      exact k _ G H (Go.refl c) (.tup hp ha)
    · have gl : Go pp ps [] G H (upd G p' (.tup (xs ++ ys))) (upd H p' (.tup (xs ++ ys))) := Go.lay c hp'
      exact k _ _ _ gl (.tup (.inl (.inl upd_same)) (RvL.mono gl.gg _ _ (ha.app hb)))
  · cases e
theorem opd_addL : OpD X (binaryOp .Add) addL := by
  intro pins s σ H x y v u Q I rx ry ⟨pp, ps, G, dx, dy, d, c, r1, r2, e, k⟩
  unfold addL at e
  split at e
  · next a b =>
    obtain ⟨h1, rfl⟩ := ite_inv e
    obtain ⟨p, xs, rfl, hp, ha⟩ := rv_lst r1
    obtain ⟨q, ys, rfl, hq, hb⟩ := rv_lst r2
    cases rx
    cases ry
    obtain ⟨z, its, n, r, e1⟩ := (same_l c.ex hp).ok I.hok
    obtain ⟨z2, its2, n2, r2, e2⟩ := (same_l c.ex hq).ok I.hok
    have hl := r.length
    have hl2 := r2.length
    have hx := ha.length
    have hy := hb.length
    have hz : its.length + its2.length ≤ sizeLine := by
      rw [← hl, ← hl2, hx, hy, sizeLine_eq]
      exact of_decide_eq_true h1
    refine PySem.P.add_list e1 e2 ?_ (by rw [List.size_toArray, List.size_toArray]; exact hz)
    have ea : its.toArray ++ its2.toArray = (its ++ its2).toArray := by simp
    rw [ea]
    have gl : Go pp ps [] G H (upd G _ (.lst (xs ++ ys))) (upd H _ (.lst (xs ++ ys))) := Go.lay c I.fresh
    exact ⟨.ref _, _, I.lnew (t' := s.toks) (r.append r2) (by rw [List.length_append, hl, hl2]; exact hz), rfl, k _ _ _ gl (.lst (.inl upd_same) (RvL.mono gl.gg _ _ (ha.app hb)))⟩
  · cases e
def addD : PyData → PyData → Option PyData := orD addI (orD addS (orD addL addT))
theorem opd_add : OpD X (binaryOp .Add) addD := opd_or opd_addI (opd_or opd_addS (opd_or opd_addL opd_addT))
/-! ### comparisons -/
def cmpI (P : Int → Int → Bool) : PyData → PyData → Option PyData := onI2 (fun _ _ => true) fun i j => .bool (P i j)
theorem opd_cmpI {op : CmpOp} {P : Int → Int → Bool} (rule : ∀ (i j : Int) (t u : Tok) (Q : Value → Shared → Prop) (s : Shared), Q (.bool (P i j)) s → wpAny (model X.prog X.w) X.A (compareOp op (.int i t) (.int j u)) Q X.xe s) : OpD X (compareOp op) (cmpI P) := by
  intro pins s σ H x y v u Q I rx ry ⟨pp, ps, G, dx, dy, d, c, r1, r2, e, k⟩
  obtain ⟨i, j, rfl, rfl, hp, rfl⟩ := onI2_inv e
  cases r1
  cases r2
  obtain ⟨t, rfl⟩ := rx
  obtain ⟨t', rfl⟩ := ry
  exact rule i j t t' _ s ⟨.bl _, H, I, rfl, k _ G H (Go.refl c) (.bl _)⟩
def ltI := cmpI fun i j => decide (i < j)
def leI := cmpI fun i j => decide (i ≤ j)
def gtI := cmpI fun i j => decide (j < i)
def geI := cmpI fun i j => decide (j ≤ i)
theorem opd_ltI : OpD X (compareOp .Lt) ltI := opd_cmpI fun _ _ _ _ _ _ h => PyProof.Rows.lt_int h
theorem opd_leI : OpD X (compareOp .LtE) leI := opd_cmpI fun _ _ _ _ _ _ h => PyProof.Rows.le_int h
theorem opd_gtI : OpD X (compareOp .Gt) gtI := opd_cmpI fun _ _ _ _ _ _ h => PyProof.Rows.gt_int h
theorem opd_geI : OpD X (compareOp .GtE) geI := opd_cmpI fun _ _ _ _ _ _ h => PyProof.Rows.ge_int h
def eqD0 (x y : PyData) : Option PyData := if SeqAt.shaped x && SeqAt.shaped y then some (.bool (PyData.eqv x y)) else none
def neD0 (x y : PyData) : Option PyData := if SeqAt.shaped x && SeqAt.shaped y then some (.bool (!PyData.eqv x y)) else none
theorem opd_eq0 (hu : X.A.units + 64 < cLine) : OpD X (compareOp .Eq) eqD0 := by
  intro pins s σ H x y v u Q I rx ry ⟨pp, ps, G, dx, dy, d, c, r1, r2, e, k⟩
  obtain ⟨h1, rfl⟩ := ite_inv e
  rw [Bool.and_eq_true] at h1
  exact op_eqD hu pins s σ H x y v u Q I rx ry ⟨dx, dy, Rv.dp c.ex _ _ r1 (SeqAt.canLay_of_shaped h1.1), Rv.dp c.ex _ _ r2 (SeqAt.canLay_of_shaped h1.2), h1.1, h1.2, k _ G H (Go.refl c) (.bl _)⟩
theorem opd_ne0 (hu : X.A.units + 64 < cLine) : OpD X (compareOp .NotEq) neD0 := by
  intro pins s σ H x y v u Q I rx ry ⟨pp, ps, G, dx, dy, d, c, r1, r2, e, k⟩
  obtain ⟨h1, rfl⟩ := ite_inv e
  rw [Bool.and_eq_true] at h1
  exact op_neD hu pins s σ H x y v u Q I rx ry ⟨dx, dy, Rv.dp c.ex _ _ r1 (SeqAt.canLay_of_shaped h1.1), Rv.dp c.ex _ _ r2 (SeqAt.canLay_of_shaped h1.2), h1.1, h1.2, k _ G H (Go.refl c) (.bl _)⟩
def eqS : PyData → PyData → Option PyData
  | .str a, .str b => some (.bool (decide (a = b)))
  | _, _ => none
def neS : PyData → PyData → Option PyData
  | .str a, .str b => some (.bool (!decide (a = b)))
  | _, _ => none
theorem opd_eqS : OpD X (compareOp .Eq) eqS := by
  intro pins s σ H x y v u Q I rx ry ⟨pp, ps, G, dx, dy, d, c, r1, r2, e, k⟩
  unfold eqS at e
  split at e
  · next a b =>
    cases e
    cases r1
    cases r2
    refine op_eq pins s σ H _ _ v u Q I rx ry ⟨rfl, ?_⟩
    have := k (.bl (decide (a = b))) G H (Go.refl c) (.bl _)
    rw [show decide (V.str a = V.str b) = decide (a = b) by simp]
    exact this
  · cases e
theorem opd_neS : OpD X (compareOp .NotEq) neS := by
  intro pins s σ H x y v u Q I rx ry ⟨pp, ps, G, dx, dy, d, c, r1, r2, e, k⟩
  unfold neS at e
  split at e
  · next a b =>
    cases e
    cases r1
    cases r2
    refine op_ne pins s σ H _ _ v u Q I rx ry ⟨rfl, ?_⟩
    have := k (.bl (!decide (a = b))) G H (Go.refl c) (.bl _)
    rw [show decide (V.str a = V.str b) = decide (a = b) by simp]
    exact this
  · cases e
def eqD : PyData → PyData → Option PyData := orD eqS eqD0
def neD : PyData → PyData → Option PyData := orD neS neD0
theorem opd_eq (hu : X.A.units + 64 < cLine) : OpD X (compareOp .Eq) eqD := opd_or opd_eqS (opd_eq0 hu)
theorem opd_ne (hu : X.A.units + 64 < cLine) : OpD X (compareOp .NotEq) neD := opd_or opd_neS (opd_ne0 hu)
def items : PyData → Option (List PyData)
  | .list ds => some ds
  | .tuple ds => some ds
  | _ => none
def inD (neg : Bool) (x y : PyData) : Option PyData := match items y with
  | some ds => if SeqAt.shaped x && SeqAt.shaped y then some (.bool (if neg then !ds.any (fun z => PyData.eqv z x) else ds.any fun z => PyData.eqv z x)) else none
  | none => none
theorem inD_inv {neg : Bool} {x y d : PyData} (h : inD neg x y = some d) : ∃ ds, (y = .list ds ∨ y = .tuple ds) ∧ SeqAt.shaped x = true ∧ SeqAt.shaped y = true ∧ d = .bool (if neg then !ds.any (fun z => PyData.eqv z x) else ds.any fun z => PyData.eqv z x) := by
  unfold inD at h
  split at h
  · next ds e =>
    obtain ⟨h1, rfl⟩ := ite_inv h
    rw [Bool.and_eq_true] at h1
    refine ⟨ds, ?_, h1.1, h1.2, rfl⟩
    cases y with
    | list l => cases e; exact .inl rfl
    | tuple l => cases e; exact .inr rfl
    | _ => cases e
  · cases h
theorem depth_items {ds : List PyData} (h : SeqAt.shaped (.tuple ds) = true) : SeqAt.shaped (.list ds) = true := by
  have h1 := SeqAt.canLay_of_shaped h
  have h2 := SeqAt.depth_of_shaped h
  show ((PyData.list ds).canLay0 && decide ((PyData.list ds).depth ≤ 64)) = true
  rw [Bool.and_eq_true]
  refine ⟨?_, decide_eq_true ?_⟩
  · simpa only [PyData.canLay0] using h1
  · simpa only [PyData.depth] using h2
theorem opd_in (hu : X.A.units + 65 < cLine) : OpD X (compareOp .In) (inD false) := by
  intro pins s σ H x y v u Q I rx ry ⟨pp, ps, G, dx, dy, d, c, r1, r2, e, k⟩
  obtain ⟨ds, hy, h1, h2, rfl⟩ := inD_inv e
  have q := k _ G H (Go.refl c) (.bl _)
  have p1 := Rv.dp c.ex _ _ r1 (SeqAt.canLay_of_shaped h1)
  have p2 := Rv.dp c.ex _ _ r2 (SeqAt.canLay_of_shaped h2)
  obtain ⟨as, q1⟩ := Dp.reads I dx x v p1 rx
  obtain ⟨bs, q2⟩ := Dp.reads I dy y u p2 ry
  rcases hy with rfl | rfl
  · exact SeqAt.in_list_reads q2 q1 (SeqAt.canLay_of_shaped h2) (SeqAt.canLay_of_shaped h1) (PyProof.Rows.room_in_shaped h1 hu) ⟨.bl _, H, I, rfl, q⟩
  · exact SeqAt.in_tuple_reads q2 q1 (SeqAt.canLay_of_shaped h2) (SeqAt.canLay_of_shaped h1) (PyProof.Rows.room_in_shaped h1 hu) ⟨.bl _, H, I, rfl, q⟩
theorem opd_notIn (hu : X.A.units + 65 < cLine) : OpD X (compareOp .NotIn) (inD true) := by
  intro pins s σ H x y v u Q I rx ry ⟨pp, ps, G, dx, dy, d, c, r1, r2, e, k⟩
  obtain ⟨ds, hy, h1, h2, rfl⟩ := inD_inv e
  have q := k _ G H (Go.refl c) (.bl _)
  have p1 := Rv.dp c.ex _ _ r1 (SeqAt.canLay_of_shaped h1)
  have p2 := Rv.dp c.ex _ _ r2 (SeqAt.canLay_of_shaped h2)
  obtain ⟨as, q1⟩ := Dp.reads I dx x v p1 rx
  obtain ⟨bs, q2⟩ := Dp.reads I dy y u p2 ry
  rcases hy with rfl | rfl
  · exact SeqAt.notIn_list_reads q2 q1 (SeqAt.canLay_of_shaped h2) (SeqAt.canLay_of_shaped h1) (PyProof.Rows.room_in_shaped h1 hu) ⟨.bl _, H, I, rfl, q⟩
  · exact SeqAt.notIn_tuple_reads q2 q1 (SeqAt.canLay_of_shaped h2) (SeqAt.canLay_of_shaped h1) (PyProof.Rows.room_in_shaped h1 hu) ⟨.bl _, H, I, rfl, q⟩
/-! ### items -/
def ixD : PyData → PyData → Option PyData
  | .list ds, .int i => atI ds i
  | .tuple ds, .int i => atI ds i
  | .str z, .int i => if decide (z.length ≤ 16777216) then (atI z.cps.toList i).map fun c => .str ⟨#[c]⟩ else none
  | _, _ => none
theorem atI_rv {pp : Option Addr} {G : Hp} {xs : List V} {ds : List PyData} {i : Int} {d : PyData} (h : RvL X.K pp G xs ds) (e : atI ds i = some d) : ∃ v, atI xs i = some v ∧ Rv X.K pp G v d := by
  unfold atI at e ⊢
  rw [h.length]
  cases q : ixN ds.length i with
  | none =>
    rw [q] at e
    cases e
  | some j =>
    rw [q] at e
    exact h.get e
theorem ixd : IxR X (rD2 X.K ixD) := by
  intro ea eb pins s σ H x y v u Q I rx ry ⟨pp, ps, G, dx, dy, d, c, r1, r2, e, k⟩ hsub
  unfold ixD at e
  split at e
  · next ds i =>
    obtain ⟨p, xs, rfl, hp, ha⟩ := rv_lst r1
    cases r2
    obtain ⟨z, hz, rz⟩ := atI_rv ha e
    exact ix_seq ea eb pins s σ H _ _ v u Q I rx ry (.inl ⟨p, xs, i, z, rfl, rfl, cf_l c hp, hz, k _ G H (Go.refl c) rz⟩) hsub
  · next ds i =>
    obtain ⟨p, xs, rfl, hp, ha⟩ := rv_tup r1
    cases r2
    obtain ⟨z, hz, rz⟩ := atI_rv ha e
    exact ix_seq ea eb pins s σ H _ _ v u Q I rx ry (.inr (.inl ⟨p, xs, i, z, rfl, rfl, cf_t c hp, hz, k _ G H (Go.refl c) rz⟩)) hsub
  · next z i =>
    split at e
    · next hl =>
      obtain ⟨ch, h1, rfl⟩ := map_inv e
      cases r1
      cases r2
      exact ix_seq ea eb pins s σ H _ _ v u Q I rx ry (.inr (.inr ⟨z, i, ch, rfl, rfl, by rw [sizeLine_eq]; exact of_decide_eq_true hl, h1, k _ G H (Go.refl c) (.str _)⟩)) hsub
    · cases e
  · cases e
/-! ### built-in functions -/
def one (f : PyData → Option PyData) : List PyData → Option PyData
  | [x] => f x
  | _ => none
theorem one_inv {f : PyData → Option PyData} {xs : List PyData} {d : PyData} (h : one f xs = some d) : ∃ x, xs = [x] ∧ f x = some d := by
  unfold one at h
  split at h
  · exact ⟨_, rfl, h⟩
  · cases h
theorem rvl_one {K : PySem.W.Frag} {pp : Option Addr} {G : Hp} {vs : List V} {x : PyData} (h : RvL K pp G vs [x]) : ∃ v, vs = [v] ∧ Rv K pp G v x := by
  cases h with
  | cons a b =>
    cases b
    exact ⟨_, rfl, a⟩
theorem rvl_two {K : PySem.W.Frag} {pp : Option Addr} {G : Hp} {vs : List V} {x y : PyData} (h : RvL K pp G vs [x, y]) : ∃ v w, vs = [v, w] ∧ Rv K pp G v x ∧ Rv K pp G w y := by
  cases h with
  | cons a b =>
    obtain ⟨w, rfl, r⟩ := rvl_one b
    exact ⟨_, w, rfl, a, r⟩
def lenD : PyData → Option PyData
  | .list ds => some (.int ds.length)
  | .tuple ds => some (.int ds.length)
  | .str z => if decide (z.length ≤ 16777216) then some (.int z.length) else none
  | _ => none
theorem cd_len : CallR X (.builtin "len") (rDL X.K (one lenD)) := by
  intro pins s σ H vs us Q I rs ⟨pp, ps, G, xs, d, c, r, e, k⟩
  obtain ⟨x, ex, e1⟩ := one_inv e
  subst ex
  clear e
  obtain ⟨v, ev, r1⟩ := rvl_one r
  subst ev
  clear r
  have e := e1
  clear e1
  have r := r1
  clear r1
  unfold lenD at e
  split at e
  · next ds =>
    cases e
    obtain ⟨p, ys, rfl, hp, ha⟩ := rv_lst r
    refine call_len pins s σ H _ us Q I rs ⟨_, ys.length, rfl, .inl ⟨ys, cf_l c hp, rfl⟩, ?_⟩
    rw [ha.length]
    exact k _ G H (Go.refl c) (.int _)
  · next ds =>
    cases e
    obtain ⟨p, ys, rfl, hp, ha⟩ := rv_tup r
    refine call_len pins s σ H _ us Q I rs ⟨_, ys.length, rfl, .inr ⟨ys, cf_t c hp, rfl⟩, ?_⟩
    rw [ha.length]
    exact k _ G H (Go.refl c) (.int _)
  · next z =>
    obtain ⟨h1, rfl⟩ := ite_inv e
    cases r
    exact call_len pins s σ H _ us Q I rs ⟨_, z.length, rfl, ⟨by rw [sizeLine_eq]; exact of_decide_eq_true h1, rfl⟩, k _ G H (Go.refl c) (.int _)⟩
  · cases e
def tupleD : PyData → Option PyData
  | .list ds => some (.tuple ds)
  | .tuple ds => some (.tuple ds)
  | _ => none
def listD : PyData → Option PyData
  | .list ds => some (.list ds)
  | .tuple ds => some (.list ds)
  | _ => none
theorem cd_tuple : CallR X (.type "tuple") (rDL X.K (one tupleD)) := by
  intro pins s σ H vs us Q I rs ⟨pp, ps, G, xs, d, c, r, e, k⟩
  obtain ⟨x, ex, e1⟩ := one_inv e
  subst ex
  clear e
  obtain ⟨v, ev, r1⟩ := rvl_one r
  subst ev
  clear r
  have e := e1
  clear e1
  have r := r1
  clear r1
  unfold tupleD at e
  split at e
  · next ds =>
    cases e
    obtain ⟨p, ys, rfl, hp, ha⟩ := rv_lst r
    refine call_tuple_of pins s σ H _ us Q I rs ⟨p, ys, rfl, .inl ⟨cf_l c hp, fun l hl => ?_⟩⟩
    have gl : Go pp ps [] G H (upd G l (.tup ys)) (upd H l (.tup ys)) := Go.lay c hl
    exact k _ _ _ gl (.tup (.inl (.inl upd_same)) (RvL.mono gl.gg _ _ ha))
  · next ds =>
    cases e
    obtain ⟨p, ys, rfl, hp, ha⟩ := rv_tup r
    exact call_tuple_of pins s σ H _ us Q I rs ⟨p, ys, rfl, .inr ⟨cf_t c hp, k _ G H (Go.refl c) (.tup hp ha)⟩⟩
  · cases e
theorem cd_list : CallR X (.type "list") (rDL X.K (one listD)) := by
  intro pins s σ H vs us Q I rs ⟨pp, ps, G, xs, d, c, r, e, k⟩
  obtain ⟨x, ex, e1⟩ := one_inv e
  subst ex
  clear e
  obtain ⟨v, ev, r1⟩ := rvl_one r
  subst ev
  clear r
  have e := e1
  clear e1
  have r := r1
  clear r1
  have fin : ∀ (p : Addr) (ys : List V) (ds : List PyData), RvL X.K pp G ys ds → d = .list ds → ∀ l, H l = none → Q (.ref l) (upd H l (.lst ys)) := fun p ys ds ha ed l hl => by
    subst ed
    have gl : Go pp ps [] G H (upd G l (.lst ys)) (upd H l (.lst ys)) := Go.lay c hl
    exact k _ _ _ gl (.lst (.inl upd_same) (RvL.mono gl.gg _ _ ha))
  unfold listD at e
  split at e
  · next ds =>
    cases e
    obtain ⟨p, ys, rfl, hp, ha⟩ := rv_lst r
    exact call_list_of pins s σ H _ us Q I rs ⟨p, ys, rfl, .inl (cf_l c hp), fin p ys ds ha rfl⟩
  · next ds =>
    cases e
    obtain ⟨p, ys, rfl, hp, ha⟩ := rv_tup r
    exact call_list_of pins s σ H _ us Q I rs ⟨p, ys, rfl, .inr (cf_t c hp), fin p ys ds ha rfl⟩
  · cases e
/-- a list of truth values -/
def bools : List PyData → Option (List Bool)
  | [] => some []
  | .bool b :: r => (bools r).map (b :: ·)
  | _ :: _ => none
theorem bools_rv {K : PySem.W.Frag} {pp : Option Addr} {G : Hp} : ∀ {ds : List PyData} {bs : List Bool} {vs : List V}, bools ds = some bs → RvL K pp G vs ds → vs = bs.map V.bl
  | [], bs, vs, e, h => by
    cases e
    cases h
    rfl
  | x :: r, bs, vs, e, h => by
    cases h with
    | cons a t =>
      cases x with
      | bool b =>
        have e' : (bools r).map (b :: ·) = some bs := e
        obtain ⟨bs', h1, rfl⟩ := map_inv e'
        rw [rv_bl a, bools_rv h1 t]
        rfl
      | _ => cases e
def allD : PyData → Option PyData
  | .list ds => (bools ds).map fun bs => .bool (bs.all id)
  | _ => none
def anyD : PyData → Option PyData
  | .list ds => (bools ds).map fun bs => .bool (bs.any id)
  | _ => none
theorem cd_all (hc : X.calm = true) : CallR X (.builtin "all") (rDL X.K (one allD)) := by
  intro pins s σ H vs us Q I rs ⟨pp, ps, G, xs, d, c, r, e, k⟩
  obtain ⟨x, ex, e1⟩ := one_inv e
  subst ex
  clear e
  obtain ⟨v, ev, r1⟩ := rvl_one r
  subst ev
  clear r
  have e := e1
  clear e1
  have r := r1
  clear r1
  unfold allD at e
  split at e
  · next ds =>
    obtain ⟨bs, h1, rfl⟩ := map_inv e
    obtain ⟨p, ys, rfl, hp, ha⟩ := rv_lst r
    have ey := bools_rv h1 ha
    subst ey
    exact cr_all hc pins s σ H _ us Q I rs ⟨p, bs, rfl, cf_l c hp, k _ G H (Go.refl c) (.bl _)⟩
  · cases e
theorem cd_any (hc : X.calm = true) : CallR X (.builtin "any") (rDL X.K (one anyD)) := by
  intro pins s σ H vs us Q I rs ⟨pp, ps, G, xs, d, c, r, e, k⟩
  obtain ⟨x, ex, e1⟩ := one_inv e
  subst ex
  clear e
  obtain ⟨v, ev, r1⟩ := rvl_one r
  subst ev
  clear r
  have e := e1
  clear e1
  have r := r1
  clear r1
  unfold anyD at e
  split at e
  · next ds =>
    obtain ⟨bs, h1, rfl⟩ := map_inv e
    obtain ⟨p, ys, rfl, hp, ha⟩ := rv_lst r
    have ey := bools_rv h1 ha
    subst ey
    exact cr_any hc pins s σ H _ us Q I rs ⟨p, bs, rfl, cf_l c hp, k _ G H (Go.refl c) (.bl _)⟩
  · cases e
def intD : PyData → Option PyData
  | .int i => some (.int i)
  | .bool b => some (.int (if b then 1 else 0))
  | _ => none
theorem cd_int : CallR X (.type "int") (rDL X.K (one intD)) := by
  intro pins s σ H vs us Q I rs ⟨pp, ps, G, xs, d, c, r, e, k⟩
  obtain ⟨x, ex, e1⟩ := one_inv e
  subst ex
  clear e
  obtain ⟨v, ev, r1⟩ := rvl_one r
  subst ev
  clear r
  have e := e1
  clear e1
  have r := r1
  clear r1
  unfold intD at e
  split at e
  · next i =>
    cases e
    cases r
    exact call_int1 pins s σ H _ us Q I rs (.inl ⟨i, rfl, k _ G H (Go.refl c) (.int _)⟩)
  · next b =>
    cases e
    cases r
    exact call_int1 pins s σ H _ us Q I rs (.inr ⟨b, rfl, k _ G H (Go.refl c) (.int _)⟩)
  · cases e
def absD : PyData → Option PyData
  | .int i => some (.int (if i < 0 then -i else i))
  | _ => none
theorem cd_abs : CallR X (.builtin "abs") (rDL X.K (one absD)) := by
  intro pins s σ H vs us Q I rs ⟨pp, ps, G, xs, d, c, r, e, k⟩
  obtain ⟨x, ex, e1⟩ := one_inv e
  subst ex
  clear e
  obtain ⟨v, ev, r1⟩ := rvl_one r
  subst ev
  clear r
  have e := e1
  clear e1
  have r := r1
  clear r1
  unfold absD at e
  split at e
  · next i =>
    cases e
    cases r
    exact call_abs pins s σ H _ us Q I rs ⟨i, rfl, k _ G H (Go.refl c) (.int _)⟩
  · cases e
def max2 : List PyData → Option PyData
  | [.int i, .int j] => some (.int (if j > i then j else i))
  | _ => none
def min2 : List PyData → Option PyData
  | [.int i, .int j] => some (.int (if j < i then j else i))
  | _ => none
theorem cd_max2 (hc : X.calm = true) : CallR X (.builtin "max") (rDL X.K max2) := by
  intro pins s σ H vs us Q I rs ⟨pp, ps, G, xs, d, c, r, e, k⟩
  unfold max2 at e
  split at e
  · next i j =>
    cases e
    obtain ⟨v, w, rfl, r1, r2⟩ := rvl_two r
    cases r1
    cases r2
    exact call_max2 hc pins s σ H _ us Q I rs ⟨i, j, rfl, k _ G H (Go.refl c) (.int _)⟩
  · cases e
theorem cd_min2 (hc : X.calm = true) : CallR X (.builtin "min") (rDL X.K min2) := by
  intro pins s σ H vs us Q I rs ⟨pp, ps, G, xs, d, c, r, e, k⟩
  unfold min2 at e
  split at e
  · next i j =>
    cases e
    obtain ⟨v, w, rfl, r1, r2⟩ := rvl_two r
    cases r1
    cases r2
    exact call_min2 hc pins s σ H _ us Q I rs ⟨i, j, rfl, k _ G H (Go.refl c) (.int _)⟩
  · cases e
end
end DL

set_option Elab.async false
set_option linter.all false
set_option maxRecDepth 100000
/-! D-layer, part d: statements, loops, lists of one's own, defs. -/
namespace DL
open PySem L2
variable [TBL]

inductive OutS where
  | nx (S : Sd)
  | rt (d : PyData)
  | bk (S : Sd)
  | ct (S : Sd)
abbrev SG := Sd → Pt → Option (OutS × Pt)
structure GoS (pp : Option Addr) (ps' : Pt) (S : Sd) (σ : L2.St) (G H : Hp) (S' : Sd) (σ' : L2.St) (G' H' : Hp) : Prop where
  gg : Same G G'
  cf : Cf pp ps' G' H'
  fresh : ∀ b o, G' b = some o → G b = none → H b = none ∨ Owned S σ b
  keep : ∀ b o, H b = some o → pp ≠ some b → ¬ Owned S σ b → NT o → H' b = some o
  own : ∀ b, Owned S' σ' b → H b = none ∨ Owned S σ b
  there : ∀ b, H' b = none → H b = none
section
variable {pp : Option Addr} {ps ps1 ps2 : Pt} {S S1 S2 : Sd} {σ σ1 σ2 : L2.St} {G H G1 H1 G2 H2 : Hp} {K : PySem.W.Frag}
theorem GoS.trans (a : GoS pp ps1 S σ G H S1 σ1 G1 H1) (b : GoS pp ps2 S1 σ1 G1 H1 S2 σ2 G2 H2) : GoS pp ps2 S σ G H S2 σ2 G2 H2 where
  gg := a.gg.trans b.gg
  cf := b.cf
  fresh := fun c o h n => by
    cases q : G1 c with
    | none =>
      rcases b.fresh c o h q with z | z
      · exact .inl (a.there c z)
      · exact a.own c z
    | some u => exact a.fresh c u q n
  keep := fun c o h hp ho nt => b.keep c o (a.keep c o h hp ho nt) hp (fun z => by
    rcases a.own c z with y | y
    · rw [h] at y
      cases y
    · exact ho y) nt
  own := fun c z => by
    rcases b.own c z with y | y
    · exact .inl (a.there c y)
    · exact a.own c y
  there := fun c z => a.there c (b.there c z)
theorem Go.toS (g : Go pp ps1 [] G H G1 H1) (h : ∀ b, Owned S1 σ1 b → Owned S σ b) : GoS pp ps1 S σ G H S1 σ1 G1 H1 :=
  ⟨g.gg, g.cf, fun b o x y => .inl (g.fresh b o x y), fun b o x y _ nt => g.keep b o x y (by simp) nt, fun b z => .inr (h b z), fun b z => g.none_of z⟩
theorem owned_nil {b : Addr} : ¬ Owned [] σ b := fun ⟨i, ds, h, _⟩ => by simp at h
theorem Go.toR (g : Go pp ps1 [] G H G1 H1) : GoS pp ps1 S σ G H [] [] G1 H1 := g.toS fun b z => absurd z owned_nil
theorem GoS.toGo (g : GoS pp ps1 S σ G H S1 σ1 G1 H1) (h : ∀ b, ¬ Owned S σ b) : Go pp ps1 [] G H G1 H1 :=
  ⟨g.gg, g.cf, fun b o x y => (g.fresh b o x y).resolve_right (h b), fun b o x y _ nt => g.keep b o x y (h b) nt, g.there⟩
theorem GoS.refl (c : Cf pp ps G H) (h : ∀ b, Owned S1 σ1 b → Owned S σ b) : GoS pp ps S σ G H S1 σ1 G H := (Go.refl c).toS h
/-- a name takes another datum: what is owned is owned still, or less -/
theorem owned_set {i : Nat} {sv : SV} {o : Option V} {b : Addr} (hsv : ∀ ds, sv ≠ .own ds) (h : Owned (S.set i sv) (σ.set i o) b) : Owned S σ b := by
  obtain ⟨j, ds, e1, e2⟩ := h
  by_cases hj : i = j
  · subst hj
    rw [List.getElem?_set] at e1
    split at e1
    · split at e1
      · exact absurd (Option.some.inj e1) (hsv ds)
      · cases e1
    · next n => exact absurd rfl n
  · rw [List.getElem?_set_ne hj] at e1 e2
    exact ⟨j, ds, e1, e2⟩
theorem dat_ne {d : PyData} (ds : List PyData) : SV.dat d ≠ .own ds := fun z => by cases z
theorem Sl.set {i : Nat} {d : PyData} {v : V} (s : Sl K pp G H S σ) (r : Rv K pp G v d) : Sl K pp G H (S.set i (.dat d)) (σ.set i (some v)) := by
  refine ⟨by simp [s.len], fun j sv e => ?_, fun j l ds es p e1 e2 e3 e4 => ?_⟩
  · by_cases hj : i = j
    · subst hj
      rw [List.getElem?_set] at e
      split at e
      · split at e
        · next hlt =>
          cases e
          refine ⟨some v, ?_, v, rfl, r⟩
          rw [List.getElem?_set, if_pos rfl, if_pos (by rw [← s.len]; exact hlt)]
        · cases e
      · next n => exact absurd rfl n
    · rw [List.getElem?_set_ne hj] at e
      obtain ⟨o, h1, h2⟩ := s.each j sv e
      exact ⟨o, by rw [List.getElem?_set_ne hj]; exact h1, h2⟩
  · have nj : i ≠ j := fun z => by
      subst z
      rw [List.getElem?_set] at e1
      split at e1
      · split at e1
        · cases e1
        · cases e1
      · next n => exact absurd rfl n
    have nl : i ≠ l := fun z => by
      subst z
      rw [List.getElem?_set] at e2
      split at e2
      · split at e2
        · cases e2
        · cases e2
      · next n => exact absurd rfl n
    rw [List.getElem?_set_ne nj] at e1 e3
    rw [List.getElem?_set_ne nl] at e2 e4
    exact s.apart j l ds es p e1 e2 e3 e4
end

def EndD (K : PySem.W.Frag) (D : Ends) (pp : Option Addr) (ps' : Pt) (S : Sd) (σ : L2.St) (G H : Hp) : OutS → Prop
  | .nx S' => ∀ σ' G' H', GoS pp ps' S σ G H S' σ' G' H' → Sl K pp G' H' S' σ' → D.nx σ' H'
  | .rt d => ∀ v G' H', GoS pp ps' S σ G H [] [] G' H' → Rv K pp G' v d → D.rt v H'
  | .bk S' => ∀ σ' G' H', GoS pp ps' S σ G H S' σ' G' H' → Sl K pp G' H' S' σ' → D.bk σ' H'
  | .ct S' => ∀ σ' G' H', GoS pp ps' S σ G H S' σ' G' H' → Sl K pp G' H' S' σ' → D.ct σ' H'
def TDS (K : PySem.W.Frag) (g : SG) : TS := fun D σ H => ∃ (pp : Option Addr) (ps : Pt) (G : Hp) (S : Sd) (r : OutS) (ps' : Pt), Cf pp ps G H ∧ Sl K pp G H S σ ∧ g S ps = some (r, ps') ∧ EndD K D pp ps' S σ G H r
abbrev PDS (X : Cx) (st : Stmt) (g : SG) : Prop := PS X st (TDS X.K g)
abbrev PDSs (X : Cx) (sts : List Stmt) (g : SG) : Prop := PSs X sts (TDS X.K g)
theorem EndD.back {K : PySem.W.Frag} {D : Ends} {pp : Option Addr} {ps1 ps' : Pt} {S S1 : Sd} {σ σ1 : L2.St} {G H G1 H1 : Hp} {r : OutS} (a : GoS pp ps1 S σ G H S1 σ1 G1 H1) (h : EndD K D pp ps' S σ G H r) : EndD K D pp ps' S1 σ1 G1 H1 r := by
  cases r with
  | nx S' => exact fun σ' G' H' g s => h σ' G' H' (a.trans g) s
  | rt d => exact fun v G' H' g s => h v G' H' (a.trans g) s
  | bk S' => exact fun σ' G' H' g s => h σ' G' H' (a.trans g) s
  | ct S' => exact fun σ' G' H' g s => h σ' G' H' (a.trans g) s
section
variable {X : Cx}
theorem ps_imp {st : Stmt} {t t' : TS} (h : PS X st t) (i : ∀ D σ H, t' D σ H → t D σ H) : PS X st t' := ⟨fun pins s σ H D I q => h.run pins s σ H D I (i D σ H q)⟩
theorem pss_imp {st : List Stmt} {t t' : TS} (h : PSs X st t) (i : ∀ D σ H, t' D σ H → t D σ H) : PSs X st t' := ⟨fun pins s σ H D I q => h.run pins s σ H D I (i D σ H q)⟩
def sRet (g : EG) : SG := fun S ps => bindP (g S ps) fun d p => some (.rt d, p)
theorem pds_ret {e : Expr} {g : EG} {pos : Pos} (h : PD X e g) : PDS X (.Return (some e) pos) (sRet g) := ps_imp (ps_ret h) fun D σ H ⟨pp, ps, G, S, r, ps', c, s, e, k⟩ => by
  obtain ⟨d, p1, e1, e⟩ := bindP_inv e
  cases e
  exact ⟨pp, ps, G, S, d, _, c, s, e1, fun v G' H' g' r' => k v G' H' g'.toR r'⟩
def sSet (i : Nat) (g : EG) : SG := fun S ps => bindP (g S ps) fun d p => some (.nx (S.set i (.dat d)), p)
theorem pds_set {i : Nat} {x : Str} {e : Expr} {g : EG} {pos' pos : Pos} (hN : X.N.Nodup) (hi : X.N[i]? = some x) (hx : Loc X.env.scope x) (h : PD X e g)
    (hf : X.fn x = true ∨ X.env.scope.names.lookup x = some .local := by first | exact .inl rfl | exact .inr rfl | assumption)
    (hs : swapsWithSole [.Name x pos'] e pos.line X.env = pure false := by rfl) (hw : swappedStores [.Name x pos'] e X.env = pure none := by rfl) (h1 : (assignEach [.Name x pos'] X.env).map (·.2) = [assign (.Name x pos') X.env] := by rfl) : PDS X (.Assign [.Name x pos'] e pos) (sSet i g) :=
  ps_imp (ps_asg h (pg_name hN hi hx hf) hs hw h1) fun D σ H ⟨pp, ps, G, S, r, ps', c, s, e, k⟩ => by
    obtain ⟨d, p1, e1, e⟩ := bindP_inv e
    cases e
    refine ⟨pp, ps, G, S, d, _, c, s, e1, fun v G' H' g' r' => ?_⟩
    exact k _ G' H' (g'.toS fun b z => owned_set dat_ne z) ((s.go g').set r')
def sSeq (a b : SG) : SG := fun S ps => match a S ps with
  | some (.nx S1, p) => b S1 p
  | some (.rt d, p) => some (.rt d, p)
  | some (.bk S1, p) => some (.bk S1, p)
  | some (.ct S1, p) => some (.ct S1, p)
  | none => none
theorem pds_seq {st : Stmt} {rest : List Stmt} {a b : SG} (ha : PDS X st a) (hb : PDSs X rest b) : PDSs X (st :: rest) (sSeq a b) := pss_imp (pss_cons ha hb) fun D σ H ⟨pp, ps, G, S, r, ps', c, s, e, k⟩ => by
  unfold sSeq at e
  split at e
  · next S1 p1 e1 => exact ⟨pp, ps, G, S, _, p1, c, s, e1, fun σ1 G1 H1 g1 s1 => ⟨pp, p1, G1, S1, r, ps', g1.cf, s1, e, EndD.back g1 k⟩⟩
  · next d p1 e1 =>
    cases e
    exact ⟨pp, ps, G, S, _, _, c, s, e1, k⟩
  · next d p1 e1 =>
    cases e
    exact ⟨pp, ps, G, S, _, _, c, s, e1, k⟩
  · next d p1 e1 =>
    cases e
    exact ⟨pp, ps, G, S, _, _, c, s, e1, k⟩
  · cases e
theorem pds_one {st : Stmt} {a : SG} (ha : PDS X st a) : PDSs X [st] a := pss_one ha
def sNil : SG := fun S ps => some (.nx S, ps)
theorem pds_nil : PDSs X [] sNil := pss_imp pss_nil fun D σ H ⟨pp, ps, G, S, r, ps', c, s, e, k⟩ => by
  cases e
  exact k σ G H (GoS.refl c fun b z => z) s
def sIf (t : BG) (a b : SG) : SG := fun S ps => bindP (t S ps) fun x p => if x then a S p else b S p
theorem pds_if {t : Expr} {sa sb : List Stmt} {g : BG} {a b : SG} {pos : Pos} (ht : PDT X t g) (ha : PDSs X sa a) (hb : PDSs X sb b) : PDS X (.If t sa sb pos) (sIf g a b) := ps_imp (ps_if ht ha hb) fun D σ H ⟨pp, ps, G, S, r, ps', c, s, e, k⟩ => by
  obtain ⟨x, p1, e1, e⟩ := bindP_inv e
  refine ⟨pp, ps, G, S, x, p1, c, s, e1, fun G1 H1 g1 => ?_⟩
  have g2 : GoS pp p1 S σ G H S σ G1 H1 := g1.toS fun b z => z
  cases x with
  | true => exact iteT ⟨pp, p1, G1, S, r, ps', g1.cf, s.go g1, e, EndD.back g2 k⟩
  | false => exact iteF ⟨pp, p1, G1, S, r, ps', g1.cf, s.go g1, e, EndD.back g2 k⟩

/-! ### a walk over data -/
def tiD (K : PySem.W.Frag) (g : EG) : TI := fun σ H R => ∃ (pp : Option Addr) (ps : Pt) (G : Hp) (S : Sd) (d : PyData) (ps' : Pt), Cf pp ps G H ∧ Sl K pp G H S σ ∧ g S ps = some (d, ps') ∧ (∃ ds, d = .list ds ∨ d = .tuple ds) ∧
  ∀ a G' H', Go pp ps' [] G H G' H' → Rv K pp G' (.ref a) d → (∀ ds, d = .list ds → R (Itl K a) H') ∧ (∀ ds, d = .tuple ds → R (Itt K a) H')
theorem pi_data {tg l : Expr} {g : EG} (h : PD X l g) : PI X tg l (tiD X.K g) := by
  refine ⟨fun pins s σ H R I hq => ?_⟩
  obtain ⟨pp, ps, G, S, d, ps', c, sl, e, ⟨ds, hd⟩, k⟩ := hq
  rcases hd with rfl | rfl
  · refine (pi_list h).run pins s σ H R I ⟨pp, ps, G, S, _, ps', c, sl, e, fun v G' H' g' r' => ?_⟩
    obtain ⟨a, xs, rfl, hx, ha⟩ := rv_lst r'
    exact ⟨a, rfl, ⟨xs, cf_l g'.cf hx⟩, (k a G' H' g' r').1 ds rfl⟩
  · refine (pi_tup h).run pins s σ H R I ⟨pp, ps, G, S, _, ps', c, sl, e, fun v G' H' g' r' => ?_⟩
    obtain ⟨a, xs, rfl, hx, ha⟩ := rv_tup r'
    exact ⟨a, rfl, ⟨xs, cf_t g'.cf hx⟩, (k a G' H' g' r').2 ds rfl⟩
/-- what is walked, as one form: at each turn the item of the list ds that is due, as long as the view stands -/
structure Wk (K : PySem.W.Frag) (pp : Option Addr) (G : Hp) (J : It) (ds : List PyData) : Prop where
  go : ∀ i H', Same G H' → i < ds.length → J.go i H'
  stop : ∀ i H', Same G H' → ds.length ≤ i → J.stop i H'
  yld : ∀ i H' x H'' d G1 q, Same G G1 → Cf pp q G1 H' → ds[i]? = some d → J.yld i H' x H'' → ∃ G2, Go pp q [] G1 H' G2 H'' ∧ Rv K pp G2 x d
/-- where a turn makes nothing new -/
theorem Wk.flat {K : PySem.W.Frag} {pp : Option Addr} {G : Hp} {J : It} {ds : List PyData} (go : ∀ i H', Same G H' → i < ds.length → J.go i H') (stop : ∀ i H', Same G H' → ds.length ≤ i → J.stop i H')
    (yld : ∀ i H' x H'' d, Same G H' → ds[i]? = some d → J.yld i H' x H'' → H'' = H' ∧ Rv K pp G x d) : Wk K pp G J ds :=
  ⟨go, stop, fun i H' x H'' d G1 q e c hd hy => by
    obtain ⟨rfl, r⟩ := yld i H' x H'' d (e.trans c.ex) hd hy
    exact ⟨G1, Go.refl c, Rv.mono e _ _ r⟩⟩
theorem wk_list {K : PySem.W.Frag} {pp : Option Addr} {G : Hp} {a : Addr} {ds : List PyData} (h : Rv K pp G (.ref a) (.list ds)) : Wk K pp G (Itl K a) ds := by
  obtain ⟨a', xs, e, hx, ha⟩ := rv_lst h
  cases e
  refine Wk.flat (fun i H' g hi => ?_) (fun i H' g hi => ⟨xs, .inl (same_l g hx), by rw [ha.length]; exact hi⟩) (fun i H' x H'' d g hd hy => ?_)
  · obtain ⟨v, hv, _⟩ := ha.get (List.getElem?_eq_getElem hi)
    exact ⟨xs, v, .inl (same_l g hx), hv⟩
  · obtain ⟨v, hv, r⟩ := ha.get hd
    have := hy.2 xs (.inl (same_l g hx))
    rw [hv] at this
    cases this
    exact ⟨hy.1, r⟩
theorem wk_tup {K : PySem.W.Frag} {pp : Option Addr} {G : Hp} {a : Addr} {ds : List PyData} (h : Rv K pp G (.ref a) (.tuple ds)) : Wk K pp G (Itt K a) ds := by
  obtain ⟨a', xs, e, hx, ha⟩ := rv_tup h
  cases e
  refine Wk.flat (fun i H' g hi => ?_) (fun i H' g hi => ⟨xs, same_t g hx, by rw [ha.length]; exact hi⟩) (fun i H' x H'' d g hd hy => ?_)
  · obtain ⟨v, hv, _⟩ := ha.get (List.getElem?_eq_getElem hi)
    exact ⟨xs, v, same_t g hx, hv⟩
  · obtain ⟨v, hv, r⟩ := ha.get hd
    have := hy.2 xs (same_t g hx)
    rw [hv] at this
    cases this
    exact ⟨hy.1, r⟩
def rangeD (n : Nat) : List PyData := (List.range n).map fun (i : Nat) => PyData.int (i : Int)
theorem wk_range {K : PySem.W.Frag} {pp : Option Addr} {G : Hp} {n : Nat} : Wk K pp G (Itr 0 n) (rangeD n) := by
  have hl : (rangeD n).length = n := by
    unfold rangeD
    rw [List.length_map, List.length_range]
  refine Wk.flat (fun i H' g hi => ?_) (fun i H' g hi => ?_) (fun i H' x H'' d g hd hy => ?_)
  · rw [hl] at hi
    exact hi
  · rw [hl] at hi
    exact hi
  · obtain ⟨h1, h2⟩ := hy
    refine ⟨h1, ?_⟩
    subst h2
    unfold rangeD at hd
    rw [List.getElem?_map] at hd
    obtain ⟨j, hj, rfl⟩ := map_inv hd
    obtain ⟨_, e⟩ := List.getElem?_eq_some_iff.mp hj
    rw [List.getElem_range] at e
    subst e
    rw [Int.zero_add]
    exact .int _
/-- a walk's judgement: PI with the items that are due -/
def tiW (K : PySem.W.Frag) (g : Sd → Pt → Option (List PyData × Pt)) : TI := fun σ H R => ∃ (pp : Option Addr) (ps : Pt) (G : Hp) (S : Sd) (ds : List PyData) (ps' : Pt), Cf pp ps G H ∧ Sl K pp G H S σ ∧ g S ps = some (ds, ps') ∧
  ∀ J G' H', Go pp ps' [] G H G' H' → Wk K pp G' J ds → R J H'
abbrev PDI (X : Cx) (tg l : Expr) (g : AG) : Prop := PI X tg l (tiW X.K g)
theorem pi_imp {tg l : Expr} {t t' : TI} (h : PI X tg l t) (i : ∀ σ H R, t' σ H R → t σ H R) : PI X tg l t' := ⟨fun pins s σ H R I q => h.run pins s σ H R I (i σ H R q)⟩
def iOf (g : EG) : AG := fun S ps => bindP (g S ps) fun d p => (items d).map fun ds => (ds, p)
theorem pdi_data {tg l : Expr} {g : EG} (h : PD X l g) : PDI X tg l (iOf g) := pi_imp (pi_data h) fun σ H R ⟨pp, ps, G, S, ds, ps', c, s, e, k⟩ => by
  obtain ⟨d, p1, e1, e⟩ := bindP_inv e
  obtain ⟨ds', e2, e⟩ := map_inv e
  cases e
  refine ⟨pp, ps, G, S, d, _, c, s, e1, ?_, fun a G' H' g' r' => ⟨fun es ed => ?_, fun es ed => ?_⟩⟩
  · cases d with
    | list l => exact ⟨l, .inl rfl⟩
    | tuple l => exact ⟨l, .inr rfl⟩
    | _ => cases e2
  · subst ed
    cases e2
    exact k _ G' H' g' (wk_list r')
  · subst ed
    cases e2
    exact k _ G' H' g' (wk_tup r')
def iRange (gs : AG) : AG := fun S ps => match gs S ps with
  | some ([.int j], p) => if decide (-(2 ^ 62) ≤ j) && decide (j < 2 ^ 62) then some (rangeD j.toNat, p) else none
  | _ => none
theorem pdi_range1 {tg a : Expr} {gs : AG} {p pos : Pos} (hg : Gl X "range") (hm : X.mg "range" = none) (ha : PDA X [a] gs) (hs : starEach [a] X.env = [(false, eval a X.env)] := by rfl) : PDI X tg (.Call (.Name "range" p) [a] [] pos) (iRange gs) :=
  pi_imp (pi_range1 hg hm ha hs) fun σ H R ⟨pp, ps, G, S, ds, ps', c, s, e, k⟩ => by
    unfold iRange at e
    split at e
    · next j p1 e1 =>
      obtain ⟨h1, e⟩ := ite_inv e
      cases e
      rw [Bool.and_eq_true] at h1
      refine ⟨pp, ps, G, S, _, _, c, s, e1, fun vs G' H' g' r' => ?_⟩
      obtain ⟨v, rfl, r⟩ := rvl_one r'
      cases r
      exact ⟨j, rfl, of_decide_eq_true h1.1, of_decide_eq_true h1.2, k _ G' H' g' wk_range⟩
    · cases e
/-! ### targets -/
/-- a target: which names take what of an item -/
abbrev Tgt := PyData → Sd → Option Sd
def tgD (K : PySem.W.Frag) (is : List Nat) (t : Tgt) : TG := fun v σ H Q => ∃ (pp : Option Addr) (ps : Pt) (G : Hp) (S : Sd) (d : PyData) (S' : Sd), Cf pp ps G H ∧ Sl K pp G H S σ ∧ Rv K pp G v d ∧ t d S = some S' ∧
  ∀ σ', Sl K pp G H S' σ' → (∀ b, Owned S' σ' b → Owned S σ b) → σ'.length = σ.length → (∀ j, j ∉ is → σ'[j]? = σ[j]?) → Q σ' H
abbrev PDG (X : Cx) (tg : Expr) (is : List Nat) (t : Tgt) : Prop := PG X tg (tgD X.K is t)
def tName (i : Nat) : Tgt := fun d S => some (S.set i (.dat d))
theorem pg_imp {tg : Expr} {t t' : TG} (h : PG X tg t) (i : ∀ v σ H Q, t' v σ H Q → t v σ H Q) : PG X tg t' := ⟨fun pins s σ H v u Q I r q => h.run pins s σ H v u Q I r (i v σ H Q q)⟩
theorem pdg_name {i : Nat} {x : Str} {pos : Pos} (hN : X.N.Nodup) (hi : X.N[i]? = some x) (hx : Loc X.env.scope x) (hf : X.fn x = true ∨ X.env.scope.names.lookup x = some .local := by first | exact .inl rfl | exact .inr rfl | assumption) : PDG X (.Name x pos) [i] (tName i) :=
  pg_imp (pg_name hN hi hx hf) fun v σ H Q ⟨pp, ps, G, S, d, S', c, s, r, e, k⟩ => by
    cases e
    exact k _ (s.set r) (fun b z => owned_set dat_ne z) (by simp) fun j hj => List.getElem?_set_ne (by intro z; subst z; simp at hj)
/-! ### for -/
def forGo (t : Tgt) (body : SG) : List PyData → SG
  | [], S, ps => some (.nx S, ps)
  | x :: xs, S, ps => match t x S with
    | none => none
    | some S0 => match body S0 ps with
      | some (.nx S1, p) => forGo t body xs S1 p
      | some (.ct S1, p) => forGo t body xs S1 p
      | some (.bk S1, p) => some (.nx S1, p)
      | some (.rt d, p) => some (.rt d, p)
      | none => none
def sFor (it : AG) (t : Tgt) (body : SG) : SG := fun S ps => bindP (it S ps) fun ds p => forGo t body ds S p
theorem pds_for {tg iter : Expr} {sb : List Stmt} {it : AG} {is : List Nat} {t : Tgt} {body : SG} {pos : Pos} (hp : PassesOwn (model X.prog X.w) X.A X.env X.xe) (hc : X.calm = true) (hi : PDI X tg iter it) (hg : PDG X tg is t) (hb : PDSs X sb body)
    (hs : ∀ x, foldedSetIterable iter X.env x = pure x := by intro _; rfl) : PDS X (.For tg iter sb [] pos) (sFor it t body) :=
  ps_imp (ps_for hp hc hi hg hb hs) fun D σ H ⟨pp, ps, G, S, r, ps', c, s, e, k⟩ => by
    obtain ⟨ds, p1, e1, e⟩ := bindP_inv e
    refine ⟨pp, ps, G, S, ds, p1, c, s, e1, fun J G0 H0 g0 wk => ?_⟩
    have g0s : GoS pp p1 S σ G H S σ G0 H0 := g0.toS fun b z => z
    refine ⟨fun i m σ1 H1 => ∃ S1 q G1, GoS pp q S σ G H S1 σ1 G1 H1 ∧ Same G0 G1 ∧ Sl X.K pp G1 H1 S1 σ1 ∧ forGo t body (ds.drop i) S1 q = some (r, ps') ∧ m = ds.length - i ∧ i ≤ ds.length,
      ⟨ds.length, S, p1, G0, g0s, Same.refl G0, s.go g0, by rw [List.drop_zero]; exact e, by omega, by omega⟩, fun i m σ1 H1 hW => ?_⟩
    obtain ⟨S1, q, G1, ga, gb, s1, ef, em, hi⟩ := hW
    have up : Same G0 H1 := gb.trans ga.cf.ex
    by_cases hlt : i < ds.length
    · have ed : ds.drop i = ds[i] :: ds.drop (i + 1) := List.drop_eq_getElem_cons hlt
      rw [ed] at ef
      unfold forGo at ef
      cases et : t ds[i] S1 with
      | none =>
        rw [et] at ef
        cases ef
      | some S0 =>
        rw [et] at ef
        refine .inr ⟨wk.go i H1 up hlt, fun σ' H' => ∃ S2 q2 G2, GoS pp q2 S σ G H S2 σ' G2 H' ∧ Same G0 G2 ∧ Sl X.K pp G2 H' S2 σ' ∧ forGo t body (ds.drop (i + 1)) S2 q2 = some (r, ps'), fun σ' H' hn => ?_, fun x H' hy => ?_⟩
        · obtain ⟨S2, q2, G2, a1, a2, a3, a4⟩ := hn
          exact ⟨m - 1, by omega, S2, q2, G2, a1, a2, a3, a4, by omega, by omega⟩
        · obtain ⟨Gy, gy, rx⟩ := wk.yld i H1 x H' _ G1 q gb ga.cf (List.getElem?_eq_getElem hlt) hy
          have gaY := ga.trans (gy.toS fun b z => z)
          have gbY := gb.trans gy.gg
          have s1Y := s1.go gy
          refine ⟨pp, q, Gy, S1, _, S0, gaY.cf, s1Y, rx, et, fun σ2 s2 ho _ _ => ?_⟩
          have gc : GoS pp q S σ G H S0 σ2 Gy H' := gaY.trans (GoS.refl gaY.cf ho)
          dsimp only at ef
          split at ef
          · next S2 p2 eb => exact ⟨pp, q, Gy, S0, _, p2, gaY.cf, s2, eb, fun σ3 G3 H3 g3 s3 => ⟨S2, p2, G3, gc.trans g3, gbY.trans g3.gg, s3, ef⟩⟩
          · next S2 p2 eb => exact ⟨pp, q, Gy, S0, _, p2, gaY.cf, s2, eb, fun σ3 G3 H3 g3 s3 => ⟨S2, p2, G3, gc.trans g3, gbY.trans g3.gg, s3, ef⟩⟩
          · next S2 p2 eb =>
            cases ef
            exact ⟨pp, q, Gy, S0, _, _, gaY.cf, s2, eb, fun σ3 G3 H3 g3 s3 => k σ3 G3 H3 (gc.trans g3) s3⟩
          · next d p2 eb =>
            cases ef
            exact ⟨pp, q, Gy, S0, _, _, gaY.cf, s2, eb, fun v G3 H3 g3 r3 => k v G3 H3 (gc.trans g3) r3⟩
          · cases ef
    · have ei : i = ds.length := by omega
      subst ei
      rw [List.drop_length] at ef
      cases ef
      exact .inl ⟨wk.stop _ H1 up (Nat.le_refl _), k σ1 G1 H1 ga s1⟩
/-! ### a def -/
def startD (n : Nat) (ds : List PyData) : Sd := ds.map .dat ++ List.replicate (n - ds.length) .un
def runF (n : Nat) (g : SG) (ds : List PyData) (ps : Pt) : Option (PyData × Pt) := match g (startD n ds) ps with
  | some (.rt d, p) => some (d, p)
  | some (.nx _, p) => some (.none, p)
  | _ => none
theorem get_rep {α : Type} {n i : Nat} {a x : α} (h : (List.replicate n a)[i]? = some x) : x = a := by
  rw [List.getElem?_replicate] at h
  split at h
  · exact (Option.some.inj h).symm
  · cases h
theorem start_get {n : Nat} {ds : List PyData} {i : Nat} {sv : SV} (h : (startD n ds)[i]? = some sv) : (∃ d, ds[i]? = some d ∧ sv = .dat d) ∨ sv = .un ∧ ds.length ≤ i := by
  unfold startD at h
  by_cases hi : i < ds.length
  · rw [List.getElem?_append_left (by rw [List.length_map]; exact hi), List.getElem?_map] at h
    obtain ⟨d, h1, rfl⟩ := map_inv h
    exact .inl ⟨d, h1, rfl⟩
  · rw [List.getElem?_append_right (by rw [List.length_map]; omega)] at h
    exact .inr ⟨get_rep h, by omega⟩
theorem sl_start {K : PySem.W.Frag} {pp : Option Addr} {G H : Hp} {N : List Str} {vs : List V} {ds : List PyData} (r : RvL K pp G vs ds) (hl : vs.length ≤ N.length) : Sl K pp G H (startD N.length ds) (L2.start N vs) := by
  have hlen := r.length
  refine ⟨?_, fun i sv e => ?_, fun i j ds' es p e1 => ?_⟩
  · unfold startD L2.start
    simp only [List.length_append, List.length_map, List.length_replicate]
    omega
  · rcases start_get e with ⟨d, h1, rfl⟩ | ⟨rfl, hi⟩
    · obtain ⟨v, hv, rv⟩ := r.get h1
      refine ⟨some v, ?_, v, rfl, rv⟩
      have hi : i < vs.length := (List.getElem?_eq_some_iff.mp hv).1
      unfold L2.start
      rw [List.getElem?_append_left (by rw [List.length_map]; exact hi), List.getElem?_map, hv]
      rfl
    · have hi2 : i < (L2.start N vs).length := by
        have : i < (startD N.length ds).length := (List.getElem?_eq_some_iff.mp e).1
        unfold startD at this
        unfold L2.start
        simp only [List.length_append, List.length_map, List.length_replicate] at this ⊢
        omega
      exact ⟨_, List.getElem?_eq_getElem hi2, True.intro⟩
  · rcases start_get e1 with ⟨d, _, z⟩ | ⟨z, _⟩ <;> cases z
theorem start_own {n : Nat} {ds : List PyData} {σ : L2.St} {b : Addr} : ¬ Owned (startD n ds) σ b := fun ⟨i, es, h, _⟩ => by
  rcases start_get h with ⟨d, _, z⟩ | ⟨z, _⟩ <;> cases z
section
variable {P : Program} {w : World} {K : PySem.W.Frag} {mg : Str → Option Value} {base : Heap}
theorem fn_of_body {x qual : Str} {st : Stmt} {f : Addr} {fd : FuncData} {N ps : List Str} {k : Nat} {g : SG} (F : Fun K x qual st f fd) (S : FnScope N ps (defScope st)) (hn : ps.length ≤ N.length)
    (hbody : ∀ (cdv : Value) (A : Around) (outer : List Env) (s : Shared) (H : Hp) (E : XK), Rm k (A.deeper (PyProof.Rows.envOfC qual (defScope st) s.heap.objs.size f cdv)) → PDSs (cxOf CX0 P w K mg base N qual (defScope st) f cdv A outer s H E).nox (defBody st) g) :
    FnD P w K mg base (k + 1) f fd ps (runF N.length g) := by
  refine ok_g F S (fun vs H Q E h => ?_) (fun cdv A outer s H vs Q E hr h => ?_)
  · obtain ⟨pp, p, G, ds, d, p', hl, c, r, e, q⟩ := h
    rw [r.length]
    exact hl
  · obtain ⟨pp, p, G, ds, d, p', hl, c, r, e, q⟩ := h
    refine ⟨_, hbody cdv A outer s H E hr, ?_⟩
    have hvl : vs.length ≤ N.length := by
      rw [r.length, hl]
      exact hn
    unfold runF at e
    split at e
    · next d' p1 eg =>
      cases e
      exact ⟨pp, p, G, _, _, _, c, sl_start r hvl, eg, fun v G' H' g' r' => q v G' H' (g'.toGo fun b => start_own) r'⟩
    · next S' p1 eg =>
      cases e
      exact ⟨pp, p, G, _, _, _, c, sl_start r hvl, eg, fun σ' G' H' g' s' => q _ G' H' (g'.toGo fun b => start_own) .non⟩
    · cases e
end
end
end DL

set_option Elab.async false
set_option linter.all false
set_option maxRecDepth 100000
/-! D-layer, part e: comprehensions, own lists, slices, isinstance. -/
namespace DL
open PySem L2
variable [TBL]

def wipeD (S : Sd) : List Nat → Sd
  | [] => S
  | v :: vs => (wipeD S vs).set v .un
theorem wipe_get (σ : L2.St) (j : Nat) : ∀ vs : List Nat, (wipe σ vs)[j]? = if j ∈ vs then (σ[j]?).map (fun _ => none) else σ[j]?
  | [] => by simp [wipe]
  | v :: vs => by
    have ih := wipe_get σ j vs
    unfold wipe
    rw [List.getElem?_set]
    by_cases h : v = j
    · subst h
      rw [if_pos rfl, wipe_length, if_pos (show v ∈ v :: vs from List.mem_cons_self)]
      by_cases hl : v < σ.length
      · rw [if_pos hl, List.getElem?_eq_getElem hl]
        rfl
      · rw [if_neg hl, List.getElem?_eq_none (by omega)]
        rfl
    · rw [if_neg h, ih]
      have e : (j ∈ v :: vs) = (j ∈ vs) := by
        simp only [List.mem_cons, eq_iff_iff]
        exact ⟨fun z => z.resolve_left fun y => h y.symm, .inr⟩
      simp only [e]
theorem wipe_ext {σ σ' : L2.St} {vs is : List Nat} (hs : ∀ i ∈ is, i ∈ vs) (h : ∀ j, j ∉ is → σ'[j]? = (wipe σ vs)[j]?) (hl : σ'.length = (wipe σ vs).length) : wipe σ' vs = wipe σ vs := by
  apply List.ext_getElem?
  intro j
  rw [wipe_get, wipe_get]
  by_cases hj : j ∈ vs
  · rw [if_pos hj, if_pos hj]
    rw [wipe_length] at hl
    by_cases hlt : j < σ.length
    · rw [List.getElem?_eq_getElem hlt, List.getElem?_eq_getElem (by omega)]
      rfl
    · rw [List.getElem?_eq_none (by omega), List.getElem?_eq_none (by omega)]
  · rw [if_neg hj, if_neg hj, h j fun z => hj (hs j z), wipe_get, if_neg hj]
section
variable {K : PySem.W.Frag} {pp : Option Addr} {ps q : Pt} {G H G0 H0 G1 H1 : Hp} {S : Sd} {σ : L2.St}
theorem Sl.wipe1 {v : Nat} (s : Sl K pp G H S σ) : Sl K pp G H (S.set v .un) (σ.set v none) := by
  refine ⟨by simp [s.len], fun j sv e => ?_, fun j l ds es p e1 e2 e3 e4 => ?_⟩
  · by_cases hj : v = j
    · subst hj
      rw [List.getElem?_set] at e
      split at e
      · split at e
        · next hlt =>
          cases e
          refine ⟨none, ?_, True.intro⟩
          rw [List.getElem?_set, if_pos rfl, if_pos (by rw [← s.len]; exact hlt)]
        · cases e
      · next n => exact absurd rfl n
    · rw [List.getElem?_set_ne hj] at e
      obtain ⟨o, h1, h2⟩ := s.each j sv e
      exact ⟨o, by rw [List.getElem?_set_ne hj]; exact h1, h2⟩
  · have nj : v ≠ j := fun z => by
      subst z
      rw [List.getElem?_set] at e1
      split at e1
      · split at e1
        · cases e1
        · cases e1
      · next n => exact absurd rfl n
    have nl : v ≠ l := fun z => by
      subst z
      rw [List.getElem?_set] at e2
      split at e2
      · split at e2
        · cases e2
        · cases e2
      · next n => exact absurd rfl n
    rw [List.getElem?_set_ne nj] at e1 e3
    rw [List.getElem?_set_ne nl] at e2 e4
    exact s.apart j l ds es p e1 e2 e3 e4
theorem Sl.wipe (s : Sl K pp G H S σ) : ∀ vs : List Nat, Sl K pp G H (wipeD S vs) (L2.wipe σ vs)
  | [] => s
  | _ :: vs => (Sl.wipe s vs).wipe1
/-- an object beside the view that is new since H0 may change -/
theorem Go.bump {D : Addr} {o : HO} {xs : List V} (nt : NT o) (hD : H1 D = some (.lst xs)) (g : Go pp q [] G0 H0 G1 H1) (h0 : H0 D = none) (h1 : G1 D = none) (hp : pp ≠ some D) : Go pp q [] G0 H0 G1 (upd H1 D o) := by
  refine ⟨g.gg, ⟨fun b x e => ?_, fun a ha => ⟨(g.cf.pot a ha).1, ?_⟩, tab_upd hD g.cf.tb, g.cf.vt, ot_upd nt g.cf.ot⟩, g.fresh, fun b x e hb ho nt => ?_, fun b e => ?_⟩
  · rw [upd_ne (ne_of_none e h1)]
    exact g.cf.ex b x e
  · have hne : a ≠ D := fun z => hp (z ▸ ha)
    rw [upd_ne hne]
    exact (g.cf.pot a ha).2
  · rw [upd_ne (ne_of_none e h0)]
    exact g.keep b x e hb ho nt
  · by_cases hb : b = D
    · subst hb
      exact h0
    · rw [upd_ne hb] at e
      exact g.there b e
/-- .. and be put into the view -/
theorem Go.show {D : Addr} {o : HO} (nt : NT o) (g : Go pp q [] G0 H0 G1 H1) (h0 : H0 D = none) (h1 : G1 D = none) (hp : pp ≠ some D) (hD : H1 D = some o) : Go pp q [] G0 H0 (upd G1 D o) H1 := by
  refine ⟨g.gg.trans (same_new h1), ⟨fun b x e => ?_, fun a ha => ⟨?_, (g.cf.pot a ha).2⟩, g.cf.tb, vt_upd nt g.cf.vt, g.cf.ot⟩, fun b x e n => ?_, g.keep, g.there⟩
  · by_cases hb : b = D
    · subst hb
      rw [upd_same] at e
      cases e
      exact hD
    · rw [upd_ne hb] at e
      exact g.cf.ex b x e
  · have hne : a ≠ D := fun z => hp (z ▸ ha)
    rw [upd_ne hne]
    exact (g.cf.pot a ha).1
  · by_cases hb : b = D
    · subst hb
      exact h0
    · rw [upd_ne hb] at e
      exact g.fresh b x e n
theorem Cf.pne {D : Addr} (c : Cf pp ps G H) (h : H D = none) : pp ≠ some D := fun z => by
  rw [(c.pot D z).2] at h
  cases h
theorem Go.gnone {D : Addr} {o : HO} (g : Go pp q [] G H G1 H1) (h : G D = none) (hD : H D = some o) : G1 D = none := by
  cases e : G1 D with
  | none => rfl
  | some u =>
    have := g.fresh D u e h
    rw [hD] at this
    cases this
end
/-! ### list comprehensions -/
def lcStep (t : Tgt) (test : BG) (elt : EG) (S : Sd) (x : PyData) (ps : Pt) : Option (Option PyData × Pt) := match t x S with
  | none => none
  | some S1 => bindP (test S1 ps) fun b p => if b then bindP (elt S1 p) fun y p' => some (some y, p') else some (none, p)
def lcGo (f : PyData → Pt → Option (Option PyData × Pt)) : List PyData → Pt → List PyData → Option (List PyData × Pt)
  | [], ps, acc => some (acc, ps)
  | x :: xs, ps, acc => bindP (f x ps) fun o p => lcGo f xs p (match o with
    | some y => acc ++ [y]
    | none => acc)
def eLc (it : AG) (t : Tgt) (test : BG) (elt : EG) (vs : List Nat) : EG := fun S ps => bindP (it S ps) fun ds p => if fitsL ds then bindP (lcGo (lcStep t test elt (wipeD S vs)) ds p []) fun acc p' => some (.list acc, p') else none
def bYes : BG := fun _ ps => some (true, ps)
abbrev PDTs (X : Cx) (es : List Expr) (g : BG) : Prop := PTs X es (TDT X.K g)
section
variable {X : Cx}
theorem pdts_nil : PDTs X [] bYes := ⟨fun pins s σ H Q I ⟨pp, ps, G, S, b, ps', c, sl, e, k⟩ => by
  cases e
  exact pts_nil.run pins s σ H Q I (k G H (Go.refl c))⟩
theorem pdts_one {c : Expr} {g : BG} (h : PDT X c g) : PDTs X [c] g := pts_one h
theorem lc_data {it : AG} {is : List Nat} {t : Tgt} {test : BG} {elt : EG} {vs : List Nat} (hv : ∀ i ∈ is, i ∈ vs) (K : PySem.W.Frag) (σ : L2.St) (H : Hp) (Q : VK) (h : TD K (eLc it t test elt vs) σ H Q) :
    tLc (tiW K it) (tgD K is t) (TDT K test) (TD K elt) vs σ H Q := by
  obtain ⟨pp, ps, G, S, d, ps', c, s, e, k⟩ := h
  obtain ⟨ds, p1, e1, e⟩ := bindP_inv e
  split at e
  · next hf =>
    obtain ⟨out, p2, e2, e⟩ := bindP_inv e
    cases e
    refine ⟨pp, ps, G, S, ds, p1, c, s, e1, fun J G0 H0 g0 wk D hD => ?_⟩
    have hp : pp ≠ some D := g0.cf.pne hD
    have hG0 : G0 D = none := g0.cf.ex.free hD
    have s0 : Sl K pp G0 H0 (wipeD S vs) (L2.wipe σ vs) := (s.go g0).wipe vs
    refine ⟨fun i m H1 => ∃ q G1 acc accV, Go pp q [] G0 H0 G1 H1 ∧ H1 D = some (.lst accV) ∧ G1 D = none ∧ RvL K pp G1 accV acc ∧ lcGo (lcStep t test elt (wipeD S vs)) (ds.drop i) q acc = some (out, ps') ∧ acc.length ≤ i ∧ m = ds.length - i ∧ i ≤ ds.length,
      ⟨ds.length, p1, G0, [], [], Go.hide g0.cf hD, upd_same, hG0, .nil, by rw [List.drop_zero]; exact e2, Nat.le_refl _, by omega, by omega⟩, fun i m H1 hW => ?_⟩
    obtain ⟨q, G1, acc, accV, ga, hD1, hG1, ra, ef, hla, em, hi⟩ := hW
    have up : Same G0 H1 := ga.gg.trans ga.cf.ex
    by_cases hlt : i < ds.length
    · have ed : ds.drop i = ds[i] :: ds.drop (i + 1) := List.drop_eq_getElem_cons hlt
      rw [ed] at ef
      unfold lcGo at ef
      obtain ⟨o, q1, ex, ef⟩ := bindP_inv ef
      refine .inr ⟨wk.go i H1 up hlt, fun H' => ∃ q2 G2 acc2 accV2, Go pp q2 [] G0 H0 G2 H' ∧ H' D = some (.lst accV2) ∧ G2 D = none ∧ RvL K pp G2 accV2 acc2 ∧ lcGo (lcStep t test elt (wipeD S vs)) (ds.drop (i + 1)) q2 acc2 = some (out, ps') ∧ acc2.length ≤ i + 1, fun H' hn => ?_, fun x H' hy => ?_⟩
      · obtain ⟨q2, G2, acc2, accV2, a1, a2, a3, a4, a5, a6⟩ := hn
        exact ⟨m - 1, by omega, q2, G2, acc2, accV2, a1, a2, a3, a4, a5, a6, by omega, by omega⟩
      · obtain ⟨Gy, gy, rx⟩ := wk.yld i H1 x H' _ G1 q ga.gg ga.cf (List.getElem?_eq_getElem hlt) hy
        have gaY := ga.trans gy
        have hDY := gy.keep D _ hD1 hp (by simp) nt_lst
        have hGY : Gy D = none := gy.gnone hG1 hD1
        have raY := RvL.mono gy.gg _ _ ra
        unfold lcStep at ex
        cases et : t ds[i] (wipeD S vs) with
        | none =>
          rw [et] at ex
          cases ex
        | some S1 =>
          rw [et] at ex
          obtain ⟨b, q2, eb, ex⟩ := bindP_inv ex
          refine ⟨pp, q, Gy, wipeD S vs, _, S1, gaY.cf, s0.go gaY, rx, et, fun σ2 s2 _ hl2 hj => ⟨wipe_ext hv hj hl2, ?_⟩⟩
          refine ⟨pp, q, Gy, S1, b, q2, gaY.cf, s2, eb, fun G2 H2 g2 => ?_⟩
          have hD2 : H2 D = some (.lst accV) := g2.keep D _ hDY hp (by simp) nt_lst
          have hG2 : G2 D = none := g2.gnone hGY hDY
          cases b with
          | true =>
            obtain ⟨y, q3, ey, ex⟩ := bindP_inv ex
            cases ex
            refine iteT ⟨pp, q2, G2, S1, y, _, g2.cf, s2.go g2, ey, fun v G3 H3 g3 r3 => ⟨accV, g3.keep D _ hD2 hp (by simp) nt_lst, ?_, ?_⟩⟩
            · have h1 := fits_size hf
              rw [raY.length]
              omega
            · have hG3 : G3 D = none := g3.gnone hG2 hD2
              exact ⟨_, G3, acc ++ [y], accV ++ [v], Go.bump nt_lst (g3.keep D _ hD2 hp (by simp) nt_lst) ((gaY.trans g2).trans g3) hD hG3 hp, upd_same, hG3, (RvL.mono (g2.gg.trans g3.gg) _ _ raY).app (.cons r3 .nil), ef, by rw [List.length_append]; simp; omega⟩
          | false =>
            cases ex
            exact iteF ⟨_, G2, acc, accV, gaY.trans g2, hD2, hG2, RvL.mono g2.gg _ _ raY, ef, by omega⟩
    · have ei : i = ds.length := by omega
      subst ei
      rw [List.drop_length] at ef
      cases ef
      refine .inl ⟨wk.stop _ H1 up (Nat.le_refl _), ?_⟩
      have gs := Go.show nt_lst ga hD hG1 hp hD1
      exact k _ _ _ (g0.trans gs) (.lst (.inl upd_same) (RvL.mono (same_new hG1) _ _ ra))
  · cases e
theorem pd_lc {elt tg iter : Expr} {ifs : List Expr} {scope : Scope} {own : List (Str × Nat)} {pos : Pos} {it : AG} {is : List Nat} {t : Tgt} {test : BG} {ge : EG} (hc : X.calm = true) (hN : X.N.Nodup) (hi : PDI X tg iter it) (ok : BlkOk X.N X.env.scope scope own)
    (hg : ∀ (s : Shared) (H : Hp) (C : Addr) (cl : List (Str × Addr)) (fp : List Addr), PDG (X.blk s H scope (compEnvC scope cl C X.env) fp) tg is t)
    (ht : ∀ (s : Shared) (H : Hp) (C : Addr) (cl : List (Str × Addr)) (fp : List Addr), PDTs (X.blk s H scope (compEnvC scope cl C X.env) fp) ifs test)
    (he : ∀ (s : Shared) (H : Hp) (C : Addr) (cl : List (Str × Addr)) (fp : List Addr), PD (X.blk s H scope (compEnvC scope cl C X.env) fp) elt ge)
    (hv : ∀ i ∈ is, i ∈ own.map (·.2)) (hs : ∀ x, foldedSetIterable iter X.env x = pure x := by intro _; rfl) : PD X (.ListComp elt [⟨tg, iter, ifs, 0⟩] scope pos) (eLc it t test ge (own.map (·.2))) :=
  pe_imp (pe_lc hc hN hi ok hg ht he hs) fun σ H Q h => lc_data hv X.K σ H Q h
end
end DL

set_option Elab.async false
set_option linter.all false
set_option maxRecDepth 100000
/-! D-layer, part f: lists of one's own, slices, isinstance, two names at once. -/
namespace DL
open PySem L2
variable [TBL]
section
variable {K : PySem.W.Frag} {pp : Option Addr} {ps q : Pt} {G H G1 H1 : Hp} {S : Sd} {σ : L2.St}
/-- the slots but the i-th, at a heap that keeps what they hold -/
theorem Sl.setOwn {i : Nat} {p : Addr} {vs : List V} {ds : List PyData} (s : Sl K pp G H S σ) (hgg : Same G G1) (hk : ∀ (j : Nat) (es : List PyData) (b : Addr), j ≠ i → S[j]? = some (.own es) → σ[j]? = some (some (.ref b)) → b ≠ p ∧ (∀ o, H b = some o → H1 b = some o) ∧ G1 b = none)
    (hp : H1 p = some (.lst vs)) (hg : G1 p = none) (np : pp ≠ some p) (r : RvL K pp G1 vs ds) : Sl K pp G1 H1 (S.set i (.own ds)) (σ.set i (some (.ref p))) := by
  refine ⟨by simp [s.len], fun j sv e => ?_, fun j l es fs b e1 e2 e3 e4 => ?_⟩
  · by_cases hj : i = j
    · subst hj
      rw [List.getElem?_set] at e
      split at e
      · split at e
        · next hlt =>
          cases e
          refine ⟨some (.ref p), ?_, p, vs, rfl, hp, hg, np, r⟩
          rw [List.getElem?_set, if_pos rfl, if_pos (by rw [← s.len]; exact hlt)]
        · cases e
      · next n => exact absurd rfl n
    · rw [List.getElem?_set_ne hj] at e
      obtain ⟨o, h1, h2⟩ := s.each j sv e
      refine ⟨o, by rw [List.getElem?_set_ne hj]; exact h1, ?_⟩
      cases sv with
      | un => trivial
      | dat d =>
        obtain ⟨v, rfl, rv⟩ := h2
        exact ⟨v, rfl, Rv.mono hgg _ _ rv⟩
      | own es =>
        obtain ⟨b, ws, rfl, hb, gb, nb, rb⟩ := h2
        obtain ⟨_, k1, k2⟩ := hk j es b (Ne.symm hj) e h1
        exact ⟨b, ws, rfl, k1 _ hb, k2, nb, RvL.mono hgg _ _ rb⟩
  · by_cases hj : i = j
    · by_cases hl : i = l
      · exact hj.symm.trans hl
      · subst hj
        rw [List.getElem?_set_ne hl] at e2 e4
        have hb : b = p := by
          rw [List.getElem?_set] at e3
          split at e3
          · split at e3
            · cases e3; rfl
            · cases e3
          · next n => exact absurd rfl n
        exact absurd hb (hk l fs b (Ne.symm hl) e2 e4).1
    · rw [List.getElem?_set_ne hj] at e1 e3
      by_cases hl : i = l
      · subst hl
        have hb : b = p := by
          rw [List.getElem?_set] at e4
          split at e4
          · split at e4
            · cases e4; rfl
            · cases e4
          · next n => exact absurd rfl n
        exact absurd hb (hk j es b (Ne.symm hj) e1 e3).1
      · rw [List.getElem?_set_ne hl] at e2 e4
        exact s.apart j l es fs b e1 e2 e3 e4
theorem Sl.own {i : Nat} {ds : List PyData} (s : Sl K pp G H S σ) (e : S[i]? = some (.own ds)) : ∃ p vs, σ[i]? = some (some (.ref p)) ∧ H p = some (.lst vs) ∧ G p = none ∧ pp ≠ some p ∧ RvL K pp G vs ds := by
  obtain ⟨o, h1, p, vs, rfl, h2⟩ := s.each i _ e
  exact ⟨p, vs, h1, h2⟩
end
section
variable {X : Cx}
/-! ### x = [] -/
def sNew (i : Nat) : SG := fun S ps => some (.nx (S.set i (.own [])), ps)
theorem pds_new {i : Nat} {x : Str} {pos pos' pos2 : Pos} (hN : X.N.Nodup) (hi : X.N[i]? = some x) (hx : Loc X.env.scope x)
    (hf : X.fn x = true ∨ X.env.scope.names.lookup x = some .local := by first | exact .inl rfl | exact .inr rfl | assumption)
    (hs : swapsWithSole [.Name x pos'] (.List [] pos2) pos.line X.env = pure false := by rfl) (hw : swappedStores [.Name x pos'] (.List [] pos2) X.env = pure none := by rfl) (h1 : (assignEach [.Name x pos'] X.env).map (·.2) = [assign (.Name x pos') X.env] := by rfl) :
    PDS X (.Assign [.Name x pos'] (.List [] pos2) pos) (sNew i) :=
  ps_imp (ps_asg (pe_lst pa_nil) (pg_name hN hi hx hf) hs hw h1) fun D σ H ⟨pp, ps, G, S, r, ps', c, s, e, k⟩ => by
    cases e
    refine ⟨Nat.zero_le _, fun p hp => ?_⟩
    have gh : Go pp ps [] G H G (upd H p (.lst [])) := Go.hide c hp
    have hGp : G p = none := c.ex.free hp
    refine k (σ.set i (some (.ref p))) G (upd H p (.lst [])) ⟨gh.gg, gh.cf, fun b o h n => .inl (gh.fresh b o h n), fun b o h n _ nt => gh.keep b o h n (by simp) nt, fun b hb => ?_, fun b hb => gh.none_of hb⟩ ?_
    · obtain ⟨j, ds, e1, e2⟩ := hb
      by_cases hj : i = j
      · subst hj
        rw [List.getElem?_set] at e2
        split at e2
        · split at e2
          · cases e2
            exact .inl hp
          · cases e2
        · next n => exact absurd rfl n
      · rw [List.getElem?_set_ne hj] at e1 e2
        exact .inr ⟨j, ds, e1, e2⟩
    · refine s.setOwn (Same.refl G) (fun j es b hj e1 e2 => ?_) upd_same hGp (c.pne hp) .nil
      obtain ⟨b', ws, h1, h2, h3, h4, h5⟩ := s.own e1
      rw [e2] at h1
      cases h1
      exact ⟨ne_of_none h2 hp, fun o ho => same_new hp b o ho, h3⟩
/-! ### x.append(e) -/
def sApp (i : Nat) (g : EG) : SG := fun S ps => match S[i]? with
  | some (.own ds) => if decide (ds.length < 16777216) then bindP (g S ps) fun d p => some (.nx (S.set i (.own (ds ++ [d]))), p) else none
  | _ => none
theorem pds_app {i : Nat} {x : Str} {e : Expr} {g : EG} {pn apos cpos pos : Pos} (hN : X.N[i]? = some x) (hv : Vis X.env.scope x) (h : PD X e g) (hd : (x == ("__debug__" : Str)) = false := by decide) (hcd : (x == ("__classdict__" : Str)) = false := by decide)
    (hbase : attributeBase (.Name x pn) "append" X.env (eval (.Name x pn) X.env) = eval (.Name x pn) X.env := by rfl)
    (hfew : ((backTo cpos (starEach [e] X.env)).all (fun x => !x.1) && (backToKw cpos (keywordEach [] X.env)).all (fun x => x.1.isSome) && decide ([e].length + ([] : List Keyword).length + (if ([] : List Keyword).isEmpty then 0 else 1) < 30)) = true := by rfl)
    (hline : (apos.endLine == cpos.line) = true := by rfl) (hst : starEach [e] X.env = (false, eval e X.env) :: starEach [] X.env := by rfl) (hplain : (backTo cpos (starEach [] X.env)).any (·.1) = false := by rfl)
    (hsw : swapsWith (.Call (.Attribute (.Name x pn) "append" apos) [e] [] cpos) none pos.line X.env = pure false := by rfl) :
    PDS X (.Expr (.Call (.Attribute (.Name x pn) "append" apos) [e] [] cpos) pos) (sApp i g) :=
  ps_imp (ps_expr (pe_bm PySem.F.plainAttrs_list PySem.F.slot_list_append PySem.F.type_list_append mt_append (pe_var hN hv hd hcd) (pa_cons h pa_nil hst) hbase hfew hline hst hplain) hsw) fun D σ H ⟨pp, ps, G, S, r, ps', c, s, e, k⟩ => by
    unfold sApp at e
    split at e
    · next ds eo =>
      split at e
      · next hlt =>
        obtain ⟨d, p1, e1, e⟩ := bindP_inv e
        cases e
        obtain ⟨p, vs, hσ, hp, hGp, np, rv⟩ := s.own eo
        refine ⟨.ref p, hσ, .inl ⟨rfl, vs, .inl (.inl hp)⟩, pp, ps, G, S, d, ps', c, s, e1, fun v G1 H1 g1 r1 => ?_⟩
        have hp1 : H1 p = some (.lst vs) := g1.keep p _ hp np (by simp) nt_lst
        have hG1 : G1 p = none := g1.gnone hGp hp
        have hlt' : ds.length < 16777216 := of_decide_eq_true hlt
        refine ⟨p, vs, v, rfl, rfl, hp1, by rw [rv.length, sizeLine_eq]; exact hlt', ?_⟩
        have own_p : Owned S σ p := ⟨i, ds, eo, hσ⟩
        have eσ : σ.set i (some (.ref p)) = σ := by
          apply List.ext_getElem?
          intro j
          by_cases hj : i = j
          · subst hj
            rw [List.getElem?_set, if_pos rfl, hσ, if_pos (List.getElem?_eq_some_iff.mp hσ).1]
          · rw [List.getElem?_set_ne hj]
        have sl1 : Sl X.K pp G1 (upd H1 p (.lst (vs ++ [v]))) (S.set i (.own (ds ++ [d]))) (σ.set i (some (.ref p))) := by
          refine (s.go g1).setOwn (Same.refl G1) (fun j es b hj e1 e2 => ?_) upd_same hG1 np ((RvL.mono g1.gg _ _ rv).app (.cons r1 .nil))
          have hne : b ≠ p := fun z => by
            subst z
            exact hj (s.apart j i es ds b e1 eo e2 hσ)
          obtain ⟨b', ws, h1, h2, h3, h4, h5⟩ := (s.go g1).own e1
          rw [e2] at h1
          cases h1
          exact ⟨hne, fun o ho => by rw [upd_ne hne]; exact ho, h3⟩
        rw [eσ] at sl1
        refine k σ G1 _ ⟨g1.gg, ⟨fun b o hb => ?_, fun a ha => ⟨(g1.cf.pot a ha).1, ?_⟩, tab_upd hp1 g1.cf.tb, g1.cf.vt, ot_upd nt_lst g1.cf.ot⟩, fun b o hb n => .inl (g1.fresh b o hb n), fun b o hb n no nt => ?_, fun b hb => ?_, fun b hb => ?_⟩ sl1
        · rw [upd_ne (ne_of_none hb hG1)]
          exact g1.cf.ex b o hb
        · have hne : a ≠ p := fun z => np (z ▸ ha)
          rw [upd_ne hne]
          exact (g1.cf.pot a ha).2
        · have hne : b ≠ p := fun z => no (z ▸ own_p)
          rw [upd_ne hne]
          exact g1.keep b o hb n (by simp) nt
        · obtain ⟨j, es, h1, h2⟩ := hb
          by_cases hj : i = j
          · subst hj
            rw [hσ] at h2
            cases h2
            exact .inr own_p
          · rw [List.getElem?_set_ne hj] at h1
            exact .inr ⟨j, es, h1, h2⟩
        · by_cases hbp : b = p
          · subst hbp
            rw [upd_same] at hb
            cases hb
          · rw [upd_ne hbp] at hb
            exact g1.none_of hb
      · cases e
    · cases e
/-! ### an own list becomes a datum -/
def frz (i : Nat) (S : Sd) : Sd := match S[i]? with
  | some (.own ds) => S.set i (.dat (.list ds))
  | _ => S
theorem set_self {σ : L2.St} {i : Nat} {o : Option V} (h : σ[i]? = some o) : σ.set i o = σ := by
  apply List.ext_getElem?
  intro j
  by_cases hj : i = j
  · subst hj
    rw [List.getElem?_set, if_pos rfl, h, if_pos (List.getElem?_eq_some_iff.mp h).1]
  · rw [List.getElem?_set_ne hj]
/-- the view with an own list in it -/
theorem frz_sl {K : PySem.W.Frag} {pp : Option Addr} {ps : Pt} {G H : Hp} {S : Sd} {σ : L2.St} {i : Nat} {ds : List PyData} {p : Addr} {vs : List V} (c : Cf pp ps G H) (s : Sl K pp G H S σ) (eo : S[i]? = some (.own ds)) (hσ : σ[i]? = some (some (.ref p))) (hp : H p = some (.lst vs)) (hG : G p = none) (np : pp ≠ some p) (rv : RvL K pp G vs ds) :
    Cf pp ps (upd G p (.lst vs)) H ∧ Sl K pp (upd G p (.lst vs)) H (S.set i (.dat (.list ds))) σ := by
  have sm : Same G (upd G p (.lst vs)) := same_new hG
  refine ⟨⟨fun b o e => ?_, fun a ha => ⟨?_, (c.pot a ha).2⟩, c.tb, vt_upd nt_lst c.vt, c.ot⟩, ?_⟩
  · by_cases hb : b = p
    · subst hb
      rw [upd_same] at e
      cases e
      exact hp
    · rw [upd_ne hb] at e
      exact c.ex b o e
  · have hne : a ≠ p := fun z => np (z ▸ ha)
    rw [upd_ne hne]
    exact (c.pot a ha).1
  · have s1 : Sl K pp (upd G p (.lst vs)) H (S.set i .un) (σ.set i none) := by
      refine ⟨by simp [s.len], fun j sv e => ?_, s.wipe1.apart⟩
      obtain ⟨o, h1, h2⟩ := (s.wipe1 (v := i)).each j sv e
      refine ⟨o, h1, ?_⟩
      cases sv with
      | un => trivial
      | dat d =>
        obtain ⟨v, rfl, r⟩ := h2
        exact ⟨v, rfl, Rv.mono sm _ _ r⟩
      | own es =>
        obtain ⟨b, ws, rfl, hb, gb, nb, rb⟩ := h2
        refine ⟨b, ws, rfl, hb, ?_, nb, RvL.mono sm _ _ rb⟩
        have hne : b ≠ p := fun z => by
          subst z
          have hj : i ≠ j := fun z => by
            subst z
            rw [List.getElem?_set] at h1
            split at h1
            · split at h1 <;> cases h1
            · next n => exact absurd rfl n
          rw [List.getElem?_set_ne hj] at e h1
          exact hj (s.apart i j ds es b eo e hσ h1)
        rw [upd_ne hne]
        exact gb
    have s2 := s1.set (i := i) (v := .ref p) (d := .list ds) (.lst (.inl upd_same) (RvL.mono sm _ _ rv))
    rw [List.set_set, List.set_set, set_self hσ] at s2
    exact s2
def sFrz (i : Nat) (g : SG) : SG := fun S ps => g (frz i S) ps
theorem pds_frz {i : Nat} {sts : List Stmt} {g : SG} (h : PDSs X sts g) : PDSs X sts (sFrz i g) := pss_imp h fun D σ H ⟨pp, ps, G, S, r, ps', c, s, e, k⟩ => by
  unfold sFrz frz at e
  split at e
  · next ds eo =>
    obtain ⟨p, vs, hσ, hp, hGp, np, rv⟩ := s.own eo
    obtain ⟨c1, s1⟩ := frz_sl c s eo hσ hp hGp np rv
    refine ⟨pp, ps, _, _, r, ps', c1, s1, e, EndD.back (ps1 := ps) ⟨same_new hGp, c1, fun b o hb n => ?_, fun b o hb _ _ _ => hb, fun b hb => ?_, fun b hb => hb⟩ k⟩
    · by_cases hbp : b = p
      · subst hbp
        exact .inr ⟨i, ds, eo, hσ⟩
      · rw [upd_ne hbp, n] at hb
        cases hb
    · obtain ⟨j, es, h1, h2⟩ := hb
      by_cases hj : i = j
      · subst hj
        rw [List.getElem?_set] at h1
        split at h1
        · split at h1 <;> cases h1
        · next n => exact absurd rfl n
      · rw [List.getElem?_set_ne hj] at h1
        exact .inr ⟨j, es, h1, h2⟩
  · exact ⟨pp, ps, G, S, r, ps', c, s, e, k⟩
/-- .. for the time of a test -/
def bFrz (i : Nat) (g : BG) : BG := fun S ps => g (frz i S) ps
theorem go_out {pp : Option Addr} {ps : Pt} {G H G' H' : Hp} {p : Addr} {o o' : HO} (hG : G p = none) (g : Go pp ps [] (upd G p o) H G' H') : Go pp ps [] G H (fun b => if b = p then none else G' b) H' := by
  refine ⟨fun b u e => ?_, ⟨fun b u e => ?_, fun a ha => ⟨?_, (g.cf.pot a ha).2⟩, g.cf.tb, fun b ps e => (by
    split at e
    · cases e
    · exact g.cf.vt b ps e), g.cf.ot⟩, fun b u e n => ?_, g.keep, g.there⟩
  · have hb : b ≠ p := ne_of_none e hG
    show (if b = p then none else G' b) = some u
    rw [if_neg hb]
    exact g.gg b u (by rw [upd_ne hb]; exact e)
  · split at e
    · cases e
    · exact g.cf.ex b u e
  · split
    · rfl
    · exact (g.cf.pot a ha).1
  · split at e
    · cases e
    · next hb => exact g.fresh b u e (by rw [upd_ne hb]; exact n)
theorem pdt_frz {i : Nat} {e : Expr} {g : BG} (h : PDT X e g) : PDT X e (bFrz i g) := pt_imp h fun σ H Q ⟨pp, ps, G, S, b, ps', c, s, e, k⟩ => by
  unfold bFrz frz at e
  split at e
  · next ds eo =>
    obtain ⟨p, vs, hσ, hp, hGp, np, rv⟩ := s.own eo
    obtain ⟨c1, s1⟩ := frz_sl c s eo hσ hp hGp np rv
    exact ⟨pp, ps, _, _, b, ps', c1, s1, e, fun G' H' g' => k _ H' (go_out (o' := .lst vs) hGp g')⟩
  · exact ⟨pp, ps, G, S, b, ps', c, s, e, k⟩
/-! ### a, b = e1, e2 -/
def sPar (i j : Nat) (gs : AG) : SG := fun S ps => match gs S ps with
  | some ([x, y], p) => some (.nx ((S.set i (.dat x)).set j (.dat y)), p)
  | _ => none
theorem pds_par {i j : Nat} {x y : Str} {a b : Expr} {gs : AG} {px py pt pos : Pos} {kt k2 pt2} (hc : X.calm = true) (hN : X.N.Nodup) (hi : X.N[i]? = some x) (hj : X.N[j]? = some y) (hij : i ≠ j) (hx : X.env.scope.names.lookup x = some .local) (hy : X.env.scope.names.lookup y = some .local)
    (ha : PDA X [a, b] gs) (hw : swappedStores [.Tuple [.Name x px, .Name y py] kt pt] (.Tuple [a, b] k2 pt2) X.env = pure (some [x, y])) : PDS X (.Assign [.Tuple [.Name x px, .Name y py] kt pt] (.Tuple [a, b] k2 pt2) pos) (sPar i j gs) :=
  ps_imp (ps_par hc hN hi hj hij hx hy ha hw) fun D σ H ⟨pp, ps, G, S, r, ps', c, s, e, k⟩ => by
    unfold sPar at e
    split at e
    · next dx dy p1 e1 =>
      cases e
      refine ⟨pp, ps, G, S, _, _, c, s, e1, fun vs G1 H1 g1 r1 => ?_⟩
      obtain ⟨v, w, rfl, rv, rw'⟩ := rvl_two r1
      refine ⟨v, w, rfl, k _ G1 H1 (g1.toS fun b z => owned_set dat_ne (owned_set dat_ne z)) (((s.go g1).set rv).set rw')⟩
    · cases e
/-! ### slices -/
def cutL {α : Type} (xs : List α) (lo hi : Option Int) : List α := (xs.drop (HT.sIx xs.length 0 lo)).take (HT.sIx xs.length xs.length hi - HT.sIx xs.length 0 lo)
theorem cut_rv {K : PySem.W.Frag} {pp : Option Addr} {G : Hp} {xs : List V} {ds : List PyData} (lo hi : Option Int) (r : RvL K pp G xs ds) : RvL K pp G (cutV xs lo hi) (cutL ds lo hi) := by
  unfold cutV cutL
  rw [r.length]
  exact (r.drop _).take _
/-- a part of a slice: left out, or a whole number -/
abbrev OG := Sd → Pt → Option (Option Int × Pt)
def tOD (K : PySem.W.Frag) (g : OG) : TO := fun σ H Q => ∃ (pp : Option Addr) (ps : Pt) (G : Hp) (S : Sd) (o : Option Int) (ps' : Pt), Cf pp ps G H ∧ Sl K pp G H S σ ∧ g S ps = some (o, ps') ∧ ∀ G' H', Go pp ps' [] G H G' H' → Q o H'
abbrev PDO (X : Cx) (e : Option Expr) (g : OG) : Prop := PO X e (tOD X.K g)
theorem po_imp {e : Option Expr} {t t' : TO} (h : PO X e t) (i : ∀ σ H Q, t' σ H Q → t σ H Q) : PO X e t' := ⟨fun pins s σ H Q I q => h.run pins s σ H Q I (i σ H Q q)⟩
def oNone : OG := fun _ ps => some (none, ps)
def oSome (g : EG) : OG := fun S ps => match g S ps with
  | some (.int i, p) => some (some i, p)
  | _ => none
theorem pdo_none : PDO X none oNone := po_imp po_none fun σ H Q ⟨pp, ps, G, S, o, ps', c, s, e, k⟩ => by
  cases e
  exact k G H (Go.refl c)
theorem pdo_some {e : Expr} {g : EG} (h : PD X e g) : PDO X (some e) (oSome g) := po_imp (po_some h) fun σ H Q ⟨pp, ps, G, S, o, ps', c, s, e, k⟩ => by
  unfold oSome at e
  split at e
  · next i p1 e1 =>
    cases e
    exact ⟨pp, ps, G, S, _, _, c, s, e1, fun v G' H' g' r' => ⟨i, rv_int r', k G' H' g'⟩⟩
  · cases e
def slD (x : PyData) (lo hi : Option Int) : Option PyData := match x with
  | .list ds => some (.list (cutL ds lo hi))
  | .tuple ds => some (.tuple (cutL ds lo hi))
  | .str z => if decide (z.length ≤ 16777216) then some (.str (cutS z lo hi)) else none
  | _ => none
def eSl (g : EG) (gl gh : OG) : EG := fun S ps => bindP (g S ps) fun x p => bindP (gl S p) fun l p1 => bindP (gh S p1) fun h p2 => (slD x l h).map fun d => (d, p2)
def rSlD (K : PySem.W.Frag) : V → Option Int → Option Int → Hp → VK → Prop := fun v lo hi H Q => ∃ (pp : Option Addr) (ps : Pt) (G : Hp) (x d : PyData), Cf pp ps G H ∧ Rv K pp G v x ∧ slD x lo hi = some d ∧ ∀ z G' H', Go pp ps [] G H G' H' → Rv K pp G' z d → Q z H'
theorem cut_whole {α : Type} {xs : List α} {lo hi : Option Int} (h : HT.sIx xs.length 0 lo = 0 ∧ HT.sIx xs.length xs.length hi = xs.length) : cutL xs lo hi = xs := by
  unfold cutL
  rw [h.1, h.2]
  simp
theorem sl_data : SlR X (rSlD X.K) := by
  intro pins s σ H x v vl vu lo hi sl Q I rx hs pl pu ⟨pp, ps, G, dx, d, c, r, e, k⟩
  unfold slD at e
  split at e
  · next ds =>
    cases e
    obtain ⟨a, xs, rfl, hx, ha⟩ := rv_lst r
    refine sl_list pins s σ H _ v vl vu lo hi sl Q I rx hs pl pu ⟨a, xs, rfl, cf_l c hx, fun p hp => ?_⟩
    have gl : Go pp ps [] G H (upd G p (.lst (cutV xs lo hi))) (upd H p (.lst (cutV xs lo hi))) := Go.lay c hp
    exact k _ _ _ gl (.lst (.inl upd_same) (RvL.mono gl.gg _ _ (cut_rv lo hi ha)))
  · next ds =>
    cases e
    obtain ⟨a, xs, rfl, hx, ha⟩ := rv_tup r
    refine sl_tupA pins s σ H _ v vl vu lo hi sl Q I rx hs pl pu ⟨a, xs, rfl, cf_t c hx, fun hw => ?_, fun _ p hp => ?_⟩
    · rw [ha.length] at hw
      rw [cut_whole hw] at k
      exact k _ G H (Go.refl c) (.tup hx ha)
    · have gl : Go pp ps [] G H (upd G p (.tup (cutV xs lo hi))) (upd H p (.tup (cutV xs lo hi))) := Go.lay c hp
      exact k _ _ _ gl (.tup (.inl (.inl upd_same)) (RvL.mono gl.gg _ _ (cut_rv lo hi ha)))
  · next z =>
    obtain ⟨h1, rfl⟩ := ite_inv e
    cases r
    exact sl_str pins s σ H _ v vl vu lo hi sl Q I rx hs pl pu ⟨z, rfl, by rw [sizeLine_eq]; exact of_decide_eq_true h1, k _ G H (Go.refl c) (.str _)⟩
  · cases e
theorem pd_slice {e : Expr} {lo hi : Option Expr} {g : EG} {gl gh : OG} {p2 pos : Pos} (he : PD X e g) (hl : PDO X lo gl) (hh : PDO X hi gh) : PD X (.Subscript e (.Slice lo hi none p2) pos) (eSl g gl gh) :=
  pe_imp (pe_slice sl_data he hl hh) fun σ H Q ⟨pp, ps, G, S, d, ps', c, s, e, k⟩ => by
    obtain ⟨x, p1, e1, e⟩ := bindP_inv e
    obtain ⟨l, p2, e2, e⟩ := bindP_inv e
    obtain ⟨u, p3, e3, e⟩ := bindP_inv e
    obtain ⟨d', e4, e⟩ := map_inv e
    cases e
    exact ⟨pp, ps, G, S, x, p1, c, s, e1, fun v G1 H1 g1 r1 => ⟨pp, p1, G1, S, l, p2, g1.cf, s.go g1, e2, fun G2 H2 g2 => ⟨pp, p2, G2, S, u, _, g2.cf, (s.go g1).go g2, e3, fun G3 H3 g3 =>
      ⟨pp, _, G3, x, d, g3.cf, Rv.mono (g2.gg.trans g3.gg) _ _ r1, e4, fun z G4 H4 g4 r4 => k z G4 H4 (((g1.trans g2).trans g3).trans g4) r4⟩⟩⟩⟩
def revD : PyData → Option PyData
  | .list ds => some (.list ds.reverse)
  | _ => none
theorem pd_rev {e : Expr} {g : EG} {k1 : Nat} {p1 p2 p3 pos : Pos} (he : PD X e g) : PD X (.Subscript e (.Slice none none (some (.UnaryOp .USub (.Constant (.int 1) k1 p1) p2)) p3) pos) (eUn revD g) :=
  pe_imp (pe_revL he) fun σ H Q ⟨pp, ps, G, S, d, ps', c, s, e, k⟩ => by
    obtain ⟨x, p1, e1, e⟩ := bindP_inv e
    obtain ⟨d', e2, e⟩ := map_inv e
    cases e
    refine ⟨pp, ps, G, S, x, _, c, s, e1, fun v G1 H1 g1 r1 => ?_⟩
    unfold revD at e2
    split at e2
    · next ds =>
      cases e2
      obtain ⟨a, xs, rfl, hx, ha⟩ := rv_lst r1
      refine ⟨a, xs, rfl, cf_l g1.cf hx, fun p hp => ?_⟩
      have gl : Go pp ps' [] G1 H1 (upd G1 p (.lst xs.reverse)) (upd H1 p (.lst xs.reverse)) := Go.lay g1.cf hp
      exact k _ _ _ (g1.trans gl) (.lst (.inl upd_same) (RvL.mono gl.gg _ _ ha.rev))
    · cases e2
/-! ### isinstance(e, a built-in type) -/
def potD1 : List (PyData × PyData) → Bool
  | (.none, _) :: _ => true
  | _ => false
def tyName : PyData → Option String
  | .none => some "NoneType"
  | .bool _ => some "bool"
  | .int _ => some "int"
  | .str _ => some "str"
  | .list _ => some "list"
  | .tuple _ => some "tuple"
  | .dict es => if potD1 es then none else some "dict"
theorem ty_of {K : PySem.W.Frag} {pp : Option Addr} {ps : Pt} {G H : Hp} {v : V} {d : PyData} {n : String} (c : Cf pp ps G H) (r : Rv K pp G v d) (e : tyName d = some n) : TyX K H v (.type n) := by
  cases d with
  | none => cases e; cases r; exact .base .non
  | bool b => cases e; cases r; exact .base (.bl b)
  | int i => cases e; cases r; exact .base (.int i)
  | str x => cases e; cases r; exact .base (.str x)
  | list ds =>
    cases e
    obtain ⟨a, xs, rfl, hx, ha⟩ := rv_lst r
    rcases hx with h | ⟨o, h⟩
    · exact .base (.lst (c.ex _ _ h))
    · exact .base (.frz (c.ex _ _ h))
  | tuple ds =>
    cases e
    obtain ⟨a, xs, rfl, hx, ha⟩ := rv_tup r
    rcases hx with (h | ⟨o, h⟩) | ⟨o, its, n, h1, h2, _⟩
    · exact .base (.tup (c.ex _ _ h))
    · exact .fTuple (c.ex _ _ h)
    · exact .kTuple h1 h2
  | dict l =>
    have e' : (if potD1 l then none else some "dict") = some n := e
    split at e'
    · cases e'
    · next hp =>
      cases e'
      cases r with
      | pot q => exact absurd rfl hp
      | dct h1 h2 =>
        rcases h1 with h | ⟨o, h⟩
        · exact .base (.dK (c.ex _ _ h))
        · exact .fDict (c.ex _ _ h)
def isiD (T : String) (x : PyData) : Option PyData := match tyName x with
  | some n => (kitB n T).map .bool
  | none => none
theorem pd_isi {T : String} {e : Expr} {y : Str} {g : EG} {p p' pos : Pos} (hg : Gl X "isinstance") (hm : X.mg "isinstance" = none) (hgy : Gl X y) (hmy : X.mg y = none) (hv : bootBuiltins y = some (.type T)) (h : PD X e g) (hn : y ≠ "__name__" := by decide) (hd : (y == ("__debug__" : Str)) = false := by decide)
    (hst : starEach [e, .Name y p'] X.env = (false, eval e X.env) :: starEach [.Name y p'] X.env := by rfl) (hst2 : starEach [.Name y p'] X.env = (false, eval (.Name y p') X.env) :: starEach [] X.env := by rfl) (hpl : (backTo pos (starEach [.Name y p'] X.env)).any (·.1) = false := by rfl) :
    PD X (.Call (.Name "isinstance" p) [e, .Name y p'] [] pos) (eUn (isiD T) g) :=
  pe_imp (pe_callB call_isi hg hm (by decide +kernel) (pa_cons h (pa_cons (pe_bltn (v := .ty T) hgy hmy hv rfl hn hd) pa_nil hst2) hst) (by decide) (by decide) hst hpl) fun σ H Q ⟨pp, ps, G, S, d, ps', c, s, e, k⟩ => by
    obtain ⟨x, p1, e1, e⟩ := bindP_inv e
    obtain ⟨d', e2, e⟩ := map_inv e
    cases e
    unfold isiD at e2
    split at e2
    · next n en =>
      obtain ⟨b, hb, rfl⟩ := map_inv e2
      exact ⟨pp, ps, G, S, x, _, c, s, e1, fun v G1 H1 g1 r1 => ⟨v, .ty T, _, _, b, rfl, .ty T, ty_of g1.cf r1 en, kit_ty hb, k _ G1 H1 g1 (.bl b)⟩⟩
    · cases e2
end
end DL

set_option Elab.async false
set_option linter.all false
set_option maxRecDepth 100000
/-! D-layer, part g: sorted(e, key=f), f a def of the program. -/
namespace DL
open PySem L2
variable [TBL]

/-- a value that can be called with one datum, from within a built-in -/
def CalA (X : Cx) (pn : List (Addr × Obj)) (cs : List (Addr × Str)) (fv : Value) (fn : List PyData → Pt → Option (PyData × Pt)) : Prop :=
  ∀ (pins : List (Addr × Obj)) (s : Shared) (σ : L2.St) (H : Hp) (pp : Option Addr) (q q' : Pt) (G : Hp) (v : V) (u : Value) (d k : PyData), (∀ p ∈ pn, p ∈ pins) → (∀ p ∈ cs, H p.1 = some (LamX.CodeO p.1 p.2)) → Inv X pins σ H s → Cf pp q G H → Rv X.K pp G v d → RelV v u → fn [d] q = some (k, q') →
    wpAny (model X.prog X.w) X.A.in1.in1 (call fv [u]) (EP X pins σ fun z H' => ∃ G', Go pp q' [] G H G' H' ∧ Rv X.K pp G' z k) (fun _ _ => False) s
theorem cal_def {X : Cx} {k : Nat} {f : Addr} {fd : FuncData} {p : Str} {fn : List PyData → Pt → Option (PyData × Pt)} (F : FnD X.prog X.w X.K X.mg X.base k f fd [p] fn) (hr : Rm (k + 1) X.A) (hb : Binds X.K fd [p] []) : CalA X [] [] (.ref f) fn := by
  intro pins s σ H pp q q' G v u d kd _ _ I c r rv e
  have hr' : Rm k X.A.in1.in1 := hr.in2
  have hbt := hb s [u] I.kIn (by simp)
  rw [List.append_nil] at hbt
  refine wpAny_call (codeAny_mono (F.go X.A.in1.in1 X.stack s H ⟨[u], []⟩ [u] [v] (fun z H' => ∃ G', Go pp q' [] G H G' H' ∧ Rv X.K pp G' z kd) E0 hr' (Env0.in1 (Env0.in1 I.env0)) hbt (.cons rv .nil) ⟨pp, q, G, [d], kd, q', rfl, c, .cons r .nil, e, fun z G' H' g' r' => ⟨G', g', r'⟩⟩) fun res s' hq => ?_)
  cases res with
  | error e => exact False.elim hq
  | ok fl =>
    cases fl with
    | ret u => exact I.after hq
    | next => exact False.elim hq
    | brk => exact False.elim hq
    | cont => exact False.elim hq
def keysGo (f : List PyData → Pt → Option (PyData × Pt)) : List PyData → Pt → Option (List PyData × Pt)
  | [], ps => some ([], ps)
  | d :: ds, ps => bindP (f [d] ps) fun k p => bindP (keysGo f ds p) fun ks p' => some (k :: ks, p')
theorem keysGo_len {f : List PyData → Pt → Option (PyData × Pt)} : ∀ {ds : List PyData} {ps p : Pt} {ks : List PyData}, keysGo f ds ps = some (ks, p) → ks.length = ds.length
  | [], _, _, _, h => by
    cases h
    rfl
  | d :: ds, ps, p, ks, h => by
    obtain ⟨k, p1, _, h⟩ := bindP_inv h
    obtain ⟨ks', p2, h2, h⟩ := bindP_inv h
    cases h
    have := keysGo_len h2
    simp [this]
def allAlikeB (ks : List PyData) : Bool := ks.all fun d => ks.all fun e => PySem.W.alike d e
def isTup1 : PyData → Bool
  | .tuple (_ :: _) => true
  | _ => false
def noTup : PyData → Bool
  | .none => false
  | .tuple _ => false
  | _ => true
def sortableB (ks : List PyData) : Bool := ks.all isTup1 || ks.all noTup
theorem allAlike_of {ks : List PyData} (h : allAlikeB ks = true) : PySem.W.AllAlike ks := fun d hd e he => by
  unfold allAlikeB at h
  rw [List.all_eq_true] at h
  have h1 := h d hd
  rw [List.all_eq_true] at h1
  exact h1 e he
theorem sortable_of {ks : List PyData} (h : sortableB ks = true) : PySem.W.Sortable ks := by
  unfold sortableB at h
  rw [Bool.or_eq_true] at h
  rcases h with h | h
  · rw [List.all_eq_true] at h
    refine .inl fun d hd => ?_
    have h1 := h d hd
    cases d with
    | tuple l =>
      cases l with
      | nil => cases h1
      | cons x r => exact ⟨x, r, rfl⟩
    | _ => cases h1
  · rw [List.all_eq_true] at h
    refine .inr fun d hd => ?_
    have h1 := h d hd
    cases d with
    | none => cases h1
    | tuple l => cases h1
    | _ => exact ⟨fun z => (nomatch z), fun xs z => (nomatch z)⟩
def sortBy (ks ds : List PyData) : List PyData := ((ks.zip ds).mergeSort (PySem.W.dataLe false fun p => p.1)).map (·.2)
def keysOk (ks : List PyData) : Bool := allAlikeB ks && sortableB ks && ks.all fun k => decide (k.canLay0 = true) && decide (k.depth ≤ 64)
def eSortK (f : List PyData → Pt → Option (PyData × Pt)) (g : EG) : EG := fun S ps => bindP (g S ps) fun x p => match x with
  | .list ds => if fitsL ds then bindP (keysGo f ds p) fun ks p' => if keysOk ks then some (.list (sortBy ks ds), p') else none else none
  | _ => none

/-- from values one by one to a list of them -/
theorem each_vals {K : PySem.W.Frag} {pp : Option Addr} {G : Hp} : ∀ {us : List Value} {ps : List (PyData × PyData)}, PySem.W.EachIs (fun (u : Value) (p : PyData × PyData) => ∃ v, RelV v u ∧ Rv K pp G v p.2) us ps → ∃ vs, Vals vs us ∧ RvL K pp G vs (ps.map (·.2))
  | _, _, .nil => ⟨[], .nil, .nil⟩
  | _, _, .cons ⟨v, r, rv⟩ t => by
    obtain ⟨vs, h1, h2⟩ := each_vals t
    exact ⟨v :: vs, .cons r h1, .cons rv h2⟩
theorem vals_each {K : PySem.W.Frag} {pp : Option Addr} {G : Hp} : ∀ {vs : List V} {us : List Value} {ds ks : List PyData}, Vals vs us → RvL K pp G vs ds → ks.length = ds.length → PySem.W.EachIs (fun (u : Value) (p : PyData × PyData) => ∃ v, RelV v u ∧ Rv K pp G v p.2) us (ks.zip ds)
  | _, _, [], ks, .nil, .nil, _ => by
    rw [List.zip_nil_right]
    exact .nil
  | _, _, d :: ds, [], .cons _ _, .cons _ _, h => by simp at h
  | _, _, d :: ds, k :: ks, .cons r t, .cons rv rt, h => .cons ⟨_, r, rv⟩ (vals_each t rt (by simpa using h))
theorem each_reads {X : Cx} {pins : List (Addr × Obj)} {σ : L2.St} {H G : Hp} {s : Shared} {pp : Option Addr} (I : Inv X pins σ H s) (e : Same G H) : ∀ {vs : List V} {us : List Value} {ds : List PyData}, Vals vs us → RvL X.K pp G vs ds → (∀ d ∈ ds, d.canLay0 = true) → PySem.W.EachIs (fun u d => ∃ as, Reads s.heap u d as) us ds
  | _, _, _, .nil, .nil, _ => .nil
  | _, _, _, .cons r t, .cons rv rt, h => .cons (Dp.reads I _ _ _ (Rv.dp e _ _ rv (h _ List.mem_cons_self)) r) (each_reads I e t rt fun d hd => h d (List.mem_cons_of_mem _ hd))
/-- a code object that is known stays known -/
theorem code_go {pp : Option Addr} {ps q : Pt} {G H G' H' : Hp} {cs : List (Addr × Str)} (c : Cf pp ps G H) (g : Go pp q [] G H G' H') (h : ∀ p ∈ cs, H p.1 = some (LamX.CodeO p.1 p.2)) : ∀ p ∈ cs, H' p.1 = some (LamX.CodeO p.1 p.2) := fun p hp =>
  g.keep _ _ (h p hp) (fun z => by
    have h1 := (c.pot _ z).2
    rw [h p hp] at h1
    unfold LamX.CodeO at h1
    cases h1) (by simp) fun ps z => LamX.codeO_ne ps z
section
variable {X : Cx}
/-- what is new since s can't be anything that the frame leans on -/
structure NewAt (X : Cx) (pins : List (Addr × Obj)) (b : Addr) : Prop where
  ab : b ∈ X.ex ∨ X.s_0.heap.objs.size ≤ b
  loc : b ≠ X.env.locals
  cell : ∀ x c, X.env.cells.lookup x = some c → c ≠ b
  pin : ∀ p ∈ X.pn ++ pins, p.1 ≠ b
  fs : b ∉ X.fs
theorem _root_.L2.Inv.newAt {pins : List (Addr × Obj)} {σ : L2.St} {H : Hp} {s : Shared} {b : Addr} (I : Inv X pins σ H s) (h : s.heap.objs.size ≤ b) : NewAt X pins b := by
  refine ⟨.inr (Nat.le_trans I.sz h), Nat.ne_of_gt (Nat.lt_of_lt_of_le I.lt h), fun x c e z => ?_, fun p hp z => ?_, I.nofs h⟩
  · obtain ⟨v, o, ho, _⟩ := I.cell x c e
    exact absurd (z ▸ Heap.lt_size ho) (Nat.not_lt.mpr h)
  · exact absurd (z ▸ Heap.lt_size (I.pin p hp).1) (Nat.not_lt.mpr h)
abbrev lsO (xs : Array Value) (e : Nat) : Obj := PyProof.Rows.seqObj "list" xs e
theorem _root_.L2.Inv.addPin {pins : List (Addr × Obj)} {σ : L2.St} {H : Hp} {s : Shared} {b : Addr} {o : Obj} (I : Inv X pins σ H s) (n : NewAt X pins b) (ho : s.heap.get? b = some o) (hn : H b = none) (hd : ∀ v, o.data ≠ .cell v) : Inv X ((b, o) :: pins) σ H s := I.pins_of fun p hp => by
  rcases List.mem_cons.mp hp with rfl | hp
  · exact ⟨ho, hn, n.loc, n.fs, hd⟩
  · exact I.pin p (List.mem_append_right _ hp)
theorem _root_.L2.Inv.pin0 {pins : List (Addr × Obj)} {σ : L2.St} {H : Hp} {s : Shared} {b : Addr} {o : Obj} (I : Inv X ((b, o) :: pins) σ H s) : s.heap.get? b = some o ∧ H b = none :=
  ⟨(I.pin (b, o) (List.mem_append_right _ List.mem_cons_self)).1, (I.pin (b, o) (List.mem_append_right _ List.mem_cons_self)).2.1⟩
theorem _root_.L2.Inv.pop {pins : List (Addr × Obj)} {σ : L2.St} {H : Hp} {s : Shared} {x : Addr × Obj} (I : Inv X (x :: pins) σ H s) : Inv X pins σ H s := I.pins_of fun p hp => I.pin p (List.mem_append_right _ (List.mem_cons_of_mem _ hp))
/-- the sort's last state: the list at a is tracked from now on -/
theorem _root_.L2.Inv.sorted {pins : List (Addr × Obj)} {σ : L2.St} {H : Hp} {s : Shared} {a kS : Addr} {h' : Heap} {tk cc : Nat} {out : List Value} {vs : List V} (I : Inv X pins σ H s) (na : NewAt X pins a) (nk : NewAt X pins kS) (ha : H a = none) (hk : H kS = none)
    (keep : ∀ b o, b ≠ a → b ≠ kS → s.heap.get? b = some o → h'.get? b = some o) (ho : h'.get? a = some (lsO out.toArray cc)) (r : Vals vs out) (hz : vs.length ≤ sizeLine) : Inv X pins σ (upd H a (.lst vs)) { s with heap := h', toks := tk } := by
  have nea : ∀ b u, H b = some u → b ≠ a ∧ b ≠ kS := fun b u e => ⟨ne_of_none e ha, ne_of_none e hk⟩
  have nin : ∀ {b : Addr}, b ∉ [a, kS] → b ≠ a ∧ b ≠ kS := fun {b} h => by simpa using h
  refine I.step (g' := s.gens) (d' := s.drawn) (ch := [a, kS]) (fun b hb => ?_) (fun b o _ _ hc e _ => keep b o (nin hc).1 (nin hc).2 e) (fun b o _ _ hc e _ => ⟨o.slots, keep b o (nin hc).1 (nin hc).2 e⟩) (fun b o hc _ n => by rw [upd_ne (nin hc).1]; exact n)
    (fun b o hc e => ⟨o, keep b o (nin hc).1 (nin hc).2 e⟩) (fun b xs e => by rw [upd_ne (nea b _ e).1]; exact e) (fun b o u e => by rw [upd_ne (nea b _ e).1]; exact e) (fun b ps e => ⟨#[], by rw [upd_ne (nea b _ e).1, e]; simp⟩) (fun m hm => ?_) (fun b u e => ?_) I.bare
  · rcases List.mem_cons.mp hb with rfl | hb
    · exact ⟨na.ab, na.loc, na.cell, na.pin⟩
    · rcases List.mem_cons.mp hb with rfl | hb
      · exact ⟨nk.ab, nk.loc, nk.cell, nk.pin⟩
      · cases hb
  · obtain ⟨o, es, ep, ho', rr⟩ := hm
    exact ⟨o, es, ep, keep _ o na.loc.symm nk.loc.symm ho', rr⟩
  · by_cases hb : b = a
    · subst hb
      rw [upd_same] at e
      cases e
      exact ⟨hz, out, cc, r, ho⟩
    · rw [upd_ne hb] at e
      refine (I.hok b u e).stay (fun c v hc q => ?_) (fun c q => by rw [upd_ne (nea c _ q).1]; exact q) fun c xs q => by rw [upd_ne (nea c _ q).1]; exact q
      rcases hc with rfl | hc
      · exact keep _ v (nea _ _ e).1 (nea _ _ e).2 q
      · exact keep _ v (nea _ _ hc).1 (nea _ _ hc).2 q
theorem keysGo_cons {f : List PyData → Pt → Option (PyData × Pt)} {d : PyData} {ds ks : List PyData} {ps p' : Pt} (h : keysGo f (d :: ds) ps = some (ks, p')) : ∃ k ks' p, ks = k :: ks' ∧ f [d] ps = some (k, p) ∧ keysGo f ds p = some (ks', p') := by
  obtain ⟨k, p1, h1, h⟩ := bindP_inv h
  obtain ⟨ks', p2, h2, h⟩ := bindP_inv h
  cases h
  exact ⟨k, ks', p1, rfl, h1, h2⟩
theorem sort_rest {pn : List (Addr × Obj)} {cs : List (Addr × Str)} {pins : List (Addr × Obj)} {s2 : Shared} {σ : L2.St} {H : Hp} {Q : VK} {a kS fq : Addr} {e1 : Nat} {fn : List PyData → Pt → Option (PyData × Pt)} {pp : Option Addr} {ps ps' : Pt} {G : Hp} {xs : List V} {ds ks : List PyData} {vs : List Value} {E' : Value → Shared → Prop}
    (hpn : ∀ p ∈ pn, p ∈ pins) (hcs : ∀ p ∈ cs, H p.1 = some (LamX.CodeO p.1 p.2)) (I2 : Inv X ((kS, lsO #[] 0) :: (a, lsO #[] e1) :: pins) σ H s2) (na : NewAt X pins a) (nk : NewAt X pins kS) (hka : kS ≠ a) (hu : X.A.units + 66 < cLine) (C : CalA X pn cs (.ref fq) fn) (c : Cf pp ps G H) (rvs : Vals xs vs) (ra : RvL X.K pp G xs ds) (hZ : vs.length ≤ sizeLine) (ek : keysGo fn ds ps = some (ks, ps'))
    (hal : PySem.W.AllAlike ks) (hso : PySem.W.Sortable ks) (hlay : ∀ d ∈ ks, d.canLay0 = true) (hdep : ∀ d ∈ ks, d.depth ≤ 64) (hHa : H a = none)
    (k : ∀ v G' H', Go pp ps' [] G H G' H' → Rv X.K pp G' v (.list (sortBy ks ds)) → Q v H') :
    wpAny (model X.prog X.w) X.A.in1.in1 (PyProof.Rows.ksk_rest a (.ref fq) false vs.toArray e1 (.ref kS)) (fun f s' => f = .done (.ret .none) ∧ EP X pins σ Q (.ref a) s') E' s2 := by
  have hvl : vs.length = ds.length := by rw [← rvs.length, ra.length]
  have hkl : ks.length = ds.length := keysGo_len ek
  have nk' : ∀ o, NewAt X ((a, o) :: pins) kS := fun o => ⟨nk.ab, nk.loc, nk.cell, fun p hp => by
    rcases List.mem_append.mp hp with h | h
    · exact nk.pin p (List.mem_append_left _ h)
    · rcases List.mem_cons.mp h with rfl | h
      · exact hka.symm
      · exact nk.pin p (List.mem_append_right _ h), nk.fs⟩
  unfold PyProof.Rows.ksk_rest
  refine wpAny_bind (wpAny_rule ?_)
  first
    | rw [List.forIn_toArray]
    | (rw [← Array.forIn_toList]; simp only [List.toList_toArray])
  refine wpAny_bind (PyProof.Rows.ksk_fold (fun i s' => ∃ H' G' q kvs kA e, Inv X ((kS, lsO kA e) :: (a, lsO #[] e1) :: pins) σ H' s' ∧ Go pp q [] G H G' H' ∧ Vals kvs kA.toList ∧ RvL X.K pp G' kvs (ks.take i) ∧ keysGo fn (ds.drop i) q = some (ks.drop i, ps') ∧ i ≤ ds.length) vs 0 s2
    ⟨H, G, ps, [], #[], 0, I2, Go.refl c, .nil, .nil, ek, Nat.zero_le _⟩ ?step ?done)
  case step =>
    rintro j x s' hx ⟨H', G', q, kvs, kA, e, I', g', rk, rvk, ekj, hj⟩
    simp only [Nat.zero_add] at rvk ekj hj ⊢
    have hjv : j < vs.length := (List.getElem?_eq_some_iff.mp hx).1
    have hjd : j < ds.length := by omega
    rw [List.drop_eq_getElem_cons hjd] at ekj
    obtain ⟨kk, ks', q1, e2, e3, e4⟩ := keysGo_cons ekj
    obtain ⟨v, hv, rv⟩ := ra.get (List.getElem?_eq_getElem hjd)
    obtain ⟨u, hu', ru⟩ := rvs.get hv
    rw [hx] at hu'
    cases hu'
    have hjk : j < ks.length := by omega
    have ekd : ks.drop j = ks[j] :: ks.drop (j + 1) := List.drop_eq_getElem_cons hjk
    rw [ekd] at e2
    have ek1 : ks[j] = kk := (List.cons.inj e2).1
    have ek2 : ks.drop (j + 1) = ks' := (List.cons.inj e2).2
    refine wpAny_bind (wpAny_attempt (wpAny_mono (C _ s' σ H' pp q q1 G' v x _ kk (fun p hp => List.mem_cons_of_mem _ (List.mem_cons_of_mem _ (hpn p hp))) (code_go c g' hcs) I' g'.cf (Rv.mono g'.gg _ _ rv) ru e3) (fun z s'' he => ?_) fun _ _ hF => hF.elim))
    obtain ⟨zv, H2, I3, rz, G2, g2, rvz⟩ := he
    try dsimp only
    obtain ⟨hk1, hk0⟩ := I3.pin0
    have hsz : kA.size ≤ vs.length := by
      have h1 : kvs.length = kA.size := rk.length.trans Array.length_toList
      have h2 := rvk.length
      rw [List.length_take] at h2
      omega
    have s1 := Heap.SameBut.update s''.heap kS (Obj.mapSeq (·.push z))
    obtain ⟨c2, hc2⟩ : ∃ c2, (s''.heap.update kS (Obj.mapSeq (·.push z))).get? kS = some (lsO (kA.push z) c2) := ⟨_, PyProof.Rows.get?_update_seq hk1 (·.push z)⟩
    refine wpAny_bind (PyProof.Rows.listUpdate_at hk1 rfl ?_ (Nat.le_trans hsz hZ) (Nat.le_trans (Nat.le_of_eq (Array.size_push ..)) (Nat.succ_le_succ (Nat.le_trans hsz hZ))))
    have I4 : Inv X ((a, lsO #[] e1) :: pins) σ H2 { s'' with heap := s''.heap.update kS (Obj.mapSeq (·.push z)), toks := s''.toks } :=
      I3.pop.turned (it := kS) (fun b o hb q => (s1.2 b hb).trans q) hk0 nk.loc nk.ab nk.cell (nk' _).pin
    refine wpAny_pure ⟨rfl, H2, G2, q1, kvs ++ [zv], kA.push z, c2, I4.addPin (nk' _) hc2 hk0 (fun v w => by cases w), g'.trans g2, ?_, ?_, ?_, by omega⟩
    · rw [Array.toList_push]
      exact rk.append (.cons rz .nil)
    · rw [List.take_add_one, List.getElem?_eq_getElem hjk, ek1]
      exact (RvL.mono g2.gg _ _ rvk).app (.cons rvz .nil)
    · rw [ek2]
      exact e4
  case done =>
    rintro s' ⟨H', G', q, kvs, kA, e, I', g', rk, rvk, ekj, hj⟩
    simp only [Nat.zero_add, hvl] at rvk ekj hj
    rw [List.drop_length] at ekj
    have eq : q = ps' := by
      have z : some (([] : List PyData), q) = some (ks.drop ds.length, ps') := ekj
      exact (Prod.mk.inj (Option.some.inj z)).2
    subst eq
    rw [List.take_of_length_le (by omega)] at rvk
    obtain ⟨hk1, hk0⟩ := I'.pin0
    obtain ⟨ha1, ha0⟩ := I'.pop.pin0
    have hsz : kA.size = vs.length := by
      have h1 : kvs.length = kA.size := rk.length.trans Array.length_toList
      have h2 := rvk.length
      omega
    have hk' : PySem.W.EachIs (fun v k => ∃ as, Reads s'.heap v k as) kA.toList ks := each_reads I' g'.cf.ex rk rvk hlay
    try dsimp only
    refine wpAny_bind (PyProof.Rows.listItems_at hk1 rfl ?_)
    refine PySem.W.keyH_end (κ := PySem.W.dataKind s'.heap ks) (h₁ := PySem.W.hideAll s'.heap [kS]) (fun b o hb q => PySem.W.of_hideAll _ q) (PySem.W.hideAll_none _ (by simp)) hk1 ha1 hka
      (PySem.W.SortsAt.data (s := s') hk' hal hso fun d hd => ?_) hsz hZ fun h3 tk3 cc k3 n3 => ⟨rfl, ?_⟩
    · have := hdep d hd
      show X.A.units + 1 + 1 + d.depth < cLine
      omega
    · have ko : PySem.W.KeyedOut false ks vs (PySem.W.sortVals (PySem.W.dataKind s'.heap ks) false kA.toList vs) := ⟨s'.heap, kA.toList, hal, rfl, hk'⟩
      have em : (ks.zip ds).map (·.1) = ks := List.map_fst_zip (by omega)
      have ko' : PySem.W.KeyedOut false ((ks.zip ds).map fun p => p.1) vs (PySem.W.sortVals (PySem.W.dataKind s'.heap ks) false kA.toList vs) := by
        rw [em]
        exact ko
      have each := PySem.W.keyedOut_each (R := fun (u : Value) (p : PyData × PyData) => ∃ v, RelV v u ∧ Rv X.K pp G' v p.2) (fun p : PyData × PyData => p.1) ko' (vals_each rvs (RvL.mono g'.gg _ _ ra) hkl)
      obtain ⟨vo, r1, r2⟩ := each_vals each
      have hol : vo.length ≤ sizeLine := by
        rw [r1.length, ko.length (by omega)]
        exact hZ
      have Ie : Inv X pins σ (upd H' a (.lst vo)) { s' with heap := h3, toks := tk3 } := I'.pop.pop.sorted na nk ha0 hk0 (fun b o hb hb2 q => k3 b o hb (PySem.W.hideAll_get _ q (by simpa using hb2))) n3 r1 hol
      refine ⟨.ref a, _, Ie, rfl, ?_⟩
      have hGa : G' a = none := g'.cf.ex.free ha0
      have gl := Go.lay (ow := []) (o := .lst vo) g'.cf ha0
      exact k _ _ _ (g'.trans gl) (.lst (.inl upd_same) (RvL.mono gl.gg _ _ r2))
theorem sort_key {pn : List (Addr × Obj)} {cs : List (Addr × Str)} {pins : List (Addr × Obj)} {s : Shared} {σ : L2.St} {H : Hp} {Q : VK} {l : Addr} {fq : Addr} {fn : List PyData → Pt → Option (PyData × Pt)} {pp : Option Addr} {ps ps' : Pt} {G : Hp} {xs : List V} {ds ks : List PyData} (hpn : ∀ p ∈ pn, p ∈ pins) (hcs : ∀ p ∈ cs, H p.1 = some (LamX.CodeO p.1 p.2)) (I : Inv X pins σ H s) (hu : X.A.units + 66 < cLine) (C : CalA X pn cs (.ref fq) fn)
    (c : Cf pp ps G H) (hl : Rd G l (.lst xs)) (ra : RvL X.K pp G xs ds) (hf : fitsL ds = true) (ek : keysGo fn ds ps = some (ks, ps')) (hk : keysOk ks = true)
    (k : ∀ v G' H', Go pp ps' [] G H G' H' → Rv X.K pp G' v (.list (sortBy ks ds)) → Q v H') :
    wpAny (model X.prog X.w) X.A (call (.builtin "sorted") [.ref l] [(Str.ofString "key", .ref fq)]) (EP X pins σ Q) X.xe s := by
  unfold keysOk at hk
  rw [Bool.and_eq_true, Bool.and_eq_true, List.all_eq_true] at hk
  obtain ⟨⟨hal, hso⟩, hkk⟩ := hk
  have hlay : ∀ d ∈ ks, d.canLay0 = true := fun d hd => by
    have h1 := hkk d hd
    rw [Bool.and_eq_true] at h1
    exact of_decide_eq_true h1.1
  have hdep : ∀ d ∈ ks, d.depth ≤ 64 := fun d hd => by
    have h1 := hkk d hd
    rw [Bool.and_eq_true] at h1
    exact of_decide_eq_true h1.2
  obtain ⟨hz, vs, nn, rvs, ho⟩ := (same_l c.ex hl).ok I.hok
  have hvl : vs.length = ds.length := by rw [← rvs.length, ra.length]
  have hkl : ks.length = ds.length := keysGo_len ek
  have hZ : vs.length ≤ sizeLine := by
    rw [hvl]
    exact fits_size hf
  generalize ha : s.heap.objs.size + 1 = a
  refine PySem.W.sorted_of_sort ⟨_, ho, rfl, _, rfl⟩ hZ (PyProof.Rows.ksk_s1 _ _) (fun _ => PyProof.Rows.ksk_l1 _ _) fun E' => ?_
  rw [PyProof.Rows.ksk_t1, ha]
  have hcp : (PySem.W.copyHeap s.heap vs).get? a = some (PyProof.Rows.seqObj "list" vs.toArray 0) := by
    rw [← ha]
    exact PySem.W.copyHeap_at s.heap vs
  obtain ⟨e1, ho1⟩ : ∃ e1, ((PySem.W.copyHeap s.heap vs).update a (Obj.mapSeq fun _ => (#[] : Array Value))).get? a = some (PyProof.Rows.seqObj "list" #[] e1) := ⟨_, PyProof.Rows.get?_update_seq hcp fun _ => #[]⟩
  unfold PyProof.Rows.ksk_tree
  refine wpAny_bind (PyProof.Rows.listItems_at (s := { s with heap := PySem.W.copyHeap s.heap vs }) hcp rfl ?_)
  refine wpAny_bind (PyProof.Rows.listUpdate_at hcp rfl ?_ (by rw [List.size_toArray]; exact hZ) (Nat.zero_le _))
  refine wpAny_bind (PyProof.Rows.seqEpoch_at ho1 rfl ?_)
  refine wpAny_bind (wpAny_newTuple ?_ (by show vs.length ≤ _; exact hZ))
  refine wpAny_bind (wpAny_newList ?_ (Nat.zero_le _))
  refine wpAny_holding ?_
  have hb2 : ∀ b o, s.heap.get? b = some o → (PySem.W.sortingHeap (PySem.W.copyHeap s.heap vs) a vs).get? b = some o := fun b o q => PySem.W.sortingHeap_old (fun z => by
    have h1 := Heap.lt_size q
    rw [z, ← ha] at h1
    exact absurd h1 (Nat.not_lt.mpr (Nat.le_succ _))) (PySem.W.copyHeap_old q)
  have I1 : Inv X pins σ H { s with heap := PySem.W.sortingHeap (PySem.W.copyHeap s.heap vs) a vs, toks := s.toks } := I.kept hb2
  have na : NewAt X pins a := I.newAt (by rw [← ha]; exact Nat.le_succ _)
  have hHa : H a = none := I.hok.fresh (by rw [← ha]; exact Nat.le_succ _)
  generalize hks : (((PySem.W.copyHeap s.heap vs).update a (Obj.mapSeq fun _ => (#[] : Array Value))).push (PyProof.Rows.seqObj "tuple" vs.toArray 0)).objs.size = kS
  have hkge : a < kS := by
    have h1 : a < (PySem.W.copyHeap s.heap vs).objs.size := Heap.lt_size hcp
    rw [← hks, PyProof.Rows.size_push', Heap.size_update]
    exact Nat.lt_succ_of_lt h1
  have hge : s.heap.objs.size ≤ kS := by
    have : s.heap.objs.size + 1 < kS := by
      rw [ha]
      exact hkge
    exact Nat.le_of_lt (Nat.lt_of_succ_lt this)
  have nk : NewAt X pins kS := I.newAt hge
  have hHk : H kS = none := I.hok.fresh hge
  have hka : kS ≠ a := Nat.ne_of_gt hkge
  have ga : (PySem.W.sortingHeap (PySem.W.copyHeap s.heap vs) a vs).get? a = some (lsO #[] e1) := Heap.get?_push_of_some _ (Heap.get?_push_of_some _ ho1)
  have gk : (PySem.W.sortingHeap (PySem.W.copyHeap s.heap vs) a vs).get? kS = some (lsO #[] 0) := by
    rw [← hks]
    exact Heap.get?_push_size _ rfl
  have I2 : Inv X ((kS, lsO #[] 0) :: (a, lsO #[] e1) :: pins) σ H { s with heap := PySem.W.sortingHeap (PySem.W.copyHeap s.heap vs) a vs, toks := s.toks } := by
    refine (I1.addPin na ga hHa (fun v w => by cases w)).addPin ⟨nk.ab, nk.loc, nk.cell, fun p hp => ?_, nk.fs⟩ gk hHk (fun v w => by cases w)
    rcases List.mem_append.mp hp with h | h
    · exact nk.pin p (List.mem_append_left _ h)
    · rcases List.mem_cons.mp h with rfl | h
      · exact hka.symm
      · exact nk.pin p (List.mem_append_right _ h)
  have fin := sort_rest (E' := E') hpn hcs I2 na nk hka hu C c rvs ra hZ ek (allAlike_of hal) (sortable_of hso) hlay hdep hHa k
  exact fin
/-- sorted(e, key=f) -/
def kwKey (e : Expr) (p : Pos) : List Keyword := [⟨some (Str.ofString "key"), e, p⟩]
theorem pd_sortK {k : Nat} {f : Addr} {fd : FuncData} {qn y : Str} {fn : List PyData → Pt → Option (PyData × Pt)} {e : Expr} {g : EG} {p pos py kp : Pos} (F : FnD X.prog X.w X.K X.mg X.base k f fd [qn] fn) (hr : Rm (k + 1) X.A) (hb : Binds X.K fd [qn] []) (hg : Gl X "sorted") (hm : X.mg "sorted" = none) (hgy : Gl X y) (hmy : X.mg y = some (.ref f)) (h : PD X e g)
    (hdy : (y == ("__debug__" : Str)) = false := by decide) (he : starEach [e] X.env = (false, eval e X.env) :: starEach [] X.env := by rfl) (he2 : backTo pos (starEach [e] X.env) = (false, eval e X.env) :: backTo pos (starEach [] X.env) := by rfl) (hpl : (backTo pos (starEach [e] X.env)).any (·.1) = false := by rfl) : PD X (.Call (.Name "sorted" p) [e] [⟨some (Str.ofString "key"), .Name y py, kp⟩] pos) (eSortK fn g) := by
  have C : CalA X [] [] (.ref f) fn := cal_def F hr hb
  have hu : X.A.units + 66 < cLine := by
    have := hr.un
    omega
  have hc : CallRK X (.builtin "sorted") [Str.ofString "key"] (fun vs zs H Q => zs = [.ref f] ∧ ∃ (pp : Option Addr) (q q' : Pt) (G : Hp) (ds ks : List PyData), Cf pp q G H ∧ RvL X.K pp G vs [.list ds] ∧ fitsL ds = true ∧ keysGo fn ds q = some (ks, q') ∧ keysOk ks = true ∧ ∀ v G' H', Go pp q' [] G H G' H' → Rv X.K pp G' v (.list (sortBy ks ds)) → Q v H') := by
    intro pins s σ H vs zs us ws Q I r rz ⟨ez, pp, q, q', G, ds, ks, c, rv, hf, ek, hk, kk⟩
    subst ez
    obtain ⟨v, rfl, rv1⟩ := rvl_one rv
    obtain ⟨l, xs, rfl, hl, ra⟩ := rv_lst rv1
    cases r with
    | cons r0 r1 =>
      cases r1
      cases r0
      cases rz with
      | cons z0 z1 =>
        cases z1
        cases z0
        exact sort_key (fun _ h => absurd h (by simp)) (fun _ h => absurd h (by simp)) I hu C c hl ra hf ek hk kk
  refine pe_imp (pe_callBK hc hg hm (by decide +kernel) (pa_cons h pa_nil he) (pk_cons (pe_glob (v := .ref f) hgy hmy rfl hdy) pk_nil) (by decide) (by decide) he2 hpl) fun σ H Q ⟨pp, ps, G, S, d, ps', c, s, e, k⟩ => ?_
  obtain ⟨x, p1, e1, e⟩ := bindP_inv e
  split at e
  · next ds =>
    split at e
    · next hf =>
      obtain ⟨ks, p2, e2, e⟩ := bindP_inv e
      obtain ⟨hk, e⟩ := ite_inv e
      cases e
      exact ⟨pp, ps, G, S, _, p1, c, s, e1, fun v G1 H1 g1 r1 => ⟨rfl, pp, p1, _, G1, ds, ks, g1.cf, .cons r1 .nil, hf, e2, hk, fun v G2 H2 g2 r2 => k v G2 H2 (g1.trans g2) r2⟩⟩
    · cases e
  · cases e
end
end DL

set_option Elab.async false
set_option linter.all false
set_option maxRecDepth 100000
/-! D-layer, part h: list({x: True for x in e}), the tuples of e each once, in the order of their first coming. -/
namespace DL
open PySem L2
variable [TBL]

mutual
def nkey : PyData → Option NestedKey
  | .none => some .none
  | .bool b => some (.num (if b = true then 1 else 0))
  | .int i => some (.num i)
  | .str x => some (.text x)
  | .tuple ds => (nkeys ds).map .tup
  | .list _ => none
  | .dict _ => none
def nkeys : List PyData → Option (List NestedKey)
  | [] => some []
  | d :: ds => (nkey d).bind fun k => (nkeys ds).map fun ks => k :: ks
end
mutual
theorem nkey_is {h : Heap} : ∀ (d : PyData) (k : NestedKey) (u : Value) (as : List Addr), nkey d = some k → Reads h u d as → NestedIs h k u
  | .none, k, u, as, e, r => by
    cases e
    cases r
    exact .none
  | .bool b, k, u, as, e, r => by
    cases e
    cases r
    exact .bool rfl
  | .int i, k, u, as, e, r => by
    cases e
    cases r
    exact .int i _
  | .str x, k, u, as, e, r => by
    cases e
    cases r
    exact .text x _
  | .tuple ds, k, u, as, e, r => by
    have e' : (nkeys ds).map NestedKey.tup = some k := by simpa only [nkey] using e
    obtain ⟨ks, h1, rfl⟩ := map_inv e'
    cases r with
    | tuple a b c d => exact .tup a b c (nkeys_is ds ks _ _ h1 d)
  | .list ds, k, u, as, e, r => by simp [nkey] at e
  | .dict ds, k, u, as, e, r => by simp [nkey] at e
theorem nkeys_is {h : Heap} : ∀ (ds : List PyData) (ks : List NestedKey) (us : List Value) (as : List Addr), nkeys ds = some ks → ReadsAll h us ds as → NestedAll h ks us
  | [], ks, us, as, e, r => by
    have e' : some [] = some ks := by simpa only [nkeys] using e
    cases e'
    cases r
    exact .nil
  | d :: ds, ks, us, as, e, r => by
    have e' : ((nkey d).bind fun k => (nkeys ds).map fun ks => k :: ks) = some ks := by simpa only [nkeys] using e
    cases h1 : nkey d with
    | none =>
      rw [h1] at e'
      cases e'
    | some k =>
      rw [h1] at e'
      obtain ⟨ks', h2, rfl⟩ := map_inv (show (nkeys ds).map (fun ks => k :: ks) = some ks from e')
      cases r with
      | cons a b => exact .cons (nkey_is d k _ _ h1 a) (nkeys_is ds ks' _ _ h2 b)
end
def isTupD : PyData → Bool
  | .tuple _ => true
  | _ => false
abbrev NP := NestedKey × PyData
def uqPut (k : NestedKey) (d : PyData) (acc : List NP) : List NP := if acc.any (fun p => decide (p.1 = k)) then acc else acc ++ [(k, d)]
def uqGo : List PyData → List NP → Option (List NP)
  | [], acc => some acc
  | d :: ds, acc => match nkey d with
    | none => none
    | some k => if decide (k.depth ≤ 8) && isTupD d && decide (d.canLay0 = true) then uqGo ds (uqPut k d acc) else none
def uniqD (x : PyData) : Option PyData := match items x with
  | some ds => if fitsL ds then (uqGo ds []).map fun acc => .list (acc.map (·.2)) else none
  | none => none
theorem uqGo_cons {d : PyData} {ds : List PyData} {acc out : List NP} (h : uqGo (d :: ds) acc = some out) : ∃ k, nkey d = some k ∧ k.depth ≤ 8 ∧ isTupD d = true ∧ d.canLay0 = true ∧ uqGo ds (uqPut k d acc) = some out := by
  unfold uqGo at h
  split at h
  · cases h
  · next k e =>
    split at h
    · next hc =>
      rw [Bool.and_eq_true, Bool.and_eq_true] at hc
      exact ⟨k, e, of_decide_eq_true hc.1.1, hc.1.2, of_decide_eq_true hc.2, h⟩
    · cases h
/-- a dict at D whose keys, in order, are vs -/
def KeysO (D : Addr) (vs : List V) : HO := .ext fun h => ∃ es ep, h.DictRaw D es ep ∧ Vals vs (es.toList.map (·.key)) ∧ (D == sysModules) = false
/-- the entries of the dict and the data -/
structure EntOk (K : PySem.W.Frag) (pp : Option Addr) (G : Hp) (h : Heap) (x : NestedKey × Addr × Value) (p : NP) : Prop where
  key : x.1 = p.1
  val : x.2.2 = .bool true
  dat : Rv K pp G (.ref x.2.1) p.2
  isk : NestedIs h x.1 (.ref x.2.1) ∧ x.1.depth ≤ 8
theorem ent_at {K : PySem.W.Frag} {pp : Option Addr} {G : Hp} {h : Heap} {k : NestedKey} : ∀ {xs : List (NestedKey × Addr × Value)} {acc : List NP}, Paired (EntOk K pp G h) xs acc → (atKey xs k).isSome = acc.any (fun p => decide (p.1 = k))
  | _, _, .nil => rfl
  | _, _, .cons (a := x) (b := p) r t => by
    have ih := ent_at (k := k) t
    unfold atKey at ih ⊢
    rw [List.find?_cons, List.any_cons, r.key]
    by_cases hx : p.1 = k
    · simp [hx]
    · simp only [hx, decide_false, Bool.false_or]
      exact ih
theorem ent_put {K : PySem.W.Frag} {pp : Option Addr} {G : Hp} {h : Heap} {k : NestedKey} : ∀ {xs : List (NestedKey × Addr × Value)} {acc : List NP}, Paired (EntOk K pp G h) xs acc → xs.map (putAt k (.bool true)) = xs
  | _, _, .nil => rfl
  | _, _, .cons (a := x) r t => by
    rw [List.map_cons, ent_put t]
    unfold putAt
    split
    · obtain ⟨a, b, c⟩ := x
      have := r.val
      simp only at this
      rw [this]
    · rfl
theorem ent_stored {K : PySem.W.Frag} {pp : Option Addr} {G : Hp} {h : Heap} {k : NestedKey} {a : Addr} {d : PyData} {xs : List (NestedKey × Addr × Value)} {acc : List NP} (P : Paired (EntOk K pp G h) xs acc) (hd : Rv K pp G (.ref a) d) (hk : NestedIs h k (.ref a) ∧ k.depth ≤ 8) : Paired (EntOk K pp G h) (storedH xs k a (.bool true)) (uqPut k d acc) := by
  unfold storedH uqPut
  rw [ent_at P]
  split
  · rw [ent_put P]
    exact P
  · exact P.snoc ⟨rfl, rfl, hd, hk⟩
theorem ent_keep {K : PySem.W.Frag} {pp : Option Addr} {G : Hp} {h h' : Heap} (hk : ∀ a o vs n, h.get? a = some o → o.data = .seq vs n → h'.get? a = some o) {xs : List (NestedKey × Addr × Value)} {acc : List NP} (P : Paired (EntOk K pp G h) xs acc) : Paired (EntOk K pp G h') xs acc := by
  induction P with
  | nil => exact .nil
  | cons r t ih => exact .cons ⟨r.key, r.val, r.dat, NestedIs.at hk _ _ r.isk.1, r.isk.2⟩ ih
theorem ent_vals {K : PySem.W.Frag} {pp : Option Addr} {G : Hp} {h : Heap} : ∀ {xs : List (NestedKey × Addr × Value)} {acc : List NP}, Paired (EntOk K pp G h) xs acc → Vals (xs.map fun x => V.ref x.2.1) (xs.map fun x => Value.ref x.2.1) ∧ RvL K pp G (xs.map fun x => V.ref x.2.1) (acc.map (·.2))
  | _, _, .nil => ⟨.nil, .nil⟩
  | _, _, .cons r t => ⟨.cons rfl (ent_vals t).1, .cons r.dat (ent_vals t).2⟩
theorem uqPut_len (k : NestedKey) (d : PyData) (acc : List NP) : (uqPut k d acc).length ≤ acc.length + 1 := by
  unfold uqPut
  split
  · omega
  · simp
section
variable {X : Cx}
/-- the comprehension itself, over an iterator that gives the items one by one -/
theorem uq_goes {pins : List (Addr × Obj)} {σ : L2.St} {H : Hp} {sB : Shared} {Q : VK} {x : Str} {scope : Scope} {p1 p2 p3 : Pos} {j : Nat} {cl : List (Str × Addr)} {it : Addr} {ob : Obj} {fp : List Addr} {St : Nat → Heap → Prop} {items : List Value} {xs : List V} {ds : List PyData} {acc : List NP} {pp : Option Addr} {q : Pt} {G : Hp}
    (I : Inv X pins σ H sB) (hit : it = sB.heap.objs.size) (Gs : Goes X.prog X.w X.A (.Name x p2) it fp [it] items.toArray.size (fun i v _ => items.toArray[i]? = some v) St) (h0 : St 0 (sB.heap.push ob)) (hfp : ∀ b ∈ fp, b = it ∨ ∃ o, sB.heap.get? b = some o)
    (hx : scope.names.lookup x = some .local) (hkind : scope.kind = .function) (hu : X.A.units + 8 < cLine) (rvs : Vals xs items) (ra : RvL X.K pp G xs ds) (c : Cf pp q G H) (hf : fitsL ds = true) (eu : uqGo ds [] = some acc) (hdb : (x == ("__debug__" : Str)) = false)
    (k : ∀ D vs, H D = none → RvL X.K pp G vs (acc.map (·.2)) → Q (.ref D) (upd H D (KeysO D vs))) :
    DcGoes X.prog X.w X.A X.xe X.env scope cl (.Name x p2) [] (.Name x p1) (.Constant (.bool true) j p3) none (EP X pins σ Q) (.ref it) { sB with heap := sB.heap.push ob } := by
  refine ⟨it, fp, [it], items.toArray.size, _, St, rfl, Gs, h0, fun D C s3 cb hD3 => ?_⟩
  have hil : items.length = ds.length := by rw [← rvs.length, ra.length]
  have szs : sB.heap.objs.size < D ∧ sB.heap.objs.size < C := by
    have h1 := cb.newD
    have h2 := cb.newC
    have h3 : ({ sB with heap := sB.heap.push ob } : Shared).heap.objs.size = sB.heap.objs.size + 1 := PyProof.Rows.size_push' _ _
    rw [h3] at h1 h2
    exact ⟨h1, h2⟩
  have hDit : D ≠ it := fun z => absurd szs.1 (by rw [z, hit]; exact Nat.lt_irrefl _)
  have hCit : C ≠ it := fun z => absurd szs.2 (by rw [z, hit]; exact Nat.lt_irrefl _)
  have nD : ∀ b o, sB.heap.get? b = some o → b ≠ D ∧ b ≠ C ∧ b ≠ it := fun b o e => by
    have := Heap.lt_size e
    refine ⟨fun z => ?_, fun z => ?_, fun z => ?_⟩
    · exact absurd (Nat.lt_trans this (z ▸ szs.1)) (Nat.lt_irrefl _)
    · exact absurd (Nat.lt_trans this (z ▸ szs.2)) (Nat.lt_irrefl _)
    · exact absurd this (by rw [z, hit]; exact Nat.lt_irrefl _)
  have fpne : ∀ b ∈ fp, b ≠ D ∧ b ≠ C := fun b hb => by
    rcases hfp b hb with rfl | ⟨o, e⟩
    · exact ⟨hDit.symm, hCit.symm⟩
    · exact ⟨(nD b o e).1, (nD b o e).2.1⟩
  have room : (nestedKind X.prog X.w).room X.A := hu
  let env := compEnvC scope cl C X.env
  have hkx : env.kindOf x = some .local := PySem.lookup_relabel_local hx
  have hek : env.scope.kind = .function := hkind
  have hcls : (env.scope.kind == .class || (env.scope.kind == .module && env.locals != env.globals)) = false := by rw [hek]; rfl
  refine ⟨fun i s1 => ∃ h tk es acci m, s1 = { sB with heap := h, toks := tk } ∧ (∀ b o, sB.heap.get? b = some o → h.get? b = some o) ∧ h.Ns C m ∧ h.DictOfH (nestedKind X.prog X.w) D es ∧ Paired (EntOk X.K pp G sB.heap) es acci ∧ uqGo (ds.drop i) acci = some acc ∧ acci.length ≤ i ∧ i ≤ ds.length, ?_, ?_, ?_, ?_⟩
  · obtain ⟨h3, tk, e3⟩ := cb.only
    refine ⟨h3, tk, [], [], fun _ => none, ?_, fun b o e => ?_, ?_, ?_, .nil, by rw [List.drop_zero]; exact eu, Nat.le_refl _, Nat.zero_le _⟩
    · rw [e3]
    · have := cb.old b o (Heap.get?_push_of_some _ e)
      rw [e3] at this
      exact this
    · have := cb.names
      rw [e3] at this
      exact this
    · rw [e3] at hD3
      exact ⟨_, #[], 0, hD3, ⟨rfl, rfl, rfl⟩, rfl, rfl, fun _ hx => by simp at hx, List.nodup_nil⟩
  · rintro i s1 h' tk' ⟨h, tk, es, acci, m, rfl, hold, hns, hd, P, eg, hla, hi⟩ hk htk
    obtain ⟨o, e1, ep, d1, d2, d3, d4, d5, d6⟩ := hd
    have old' : ∀ b o, sB.heap.get? b = some o → h'.get? b = some o := fun b o e => hk b o (by simpa using (nD b o e).2.2) (hold b o e)
    obtain ⟨on, n1, n2, n3, n4⟩ := hns
    refine ⟨h', tk', es, acci, m, rfl, old', ⟨on, n1, n2, hk C _ (by simpa using hCit) n3, n4⟩, ⟨o, e1, ep, hk D _ (by simpa using hDit) d1, d2, d3, d4, fun y hy => ?_, d6⟩, P, eg, hla, hi⟩
    have P' := ent_keep (h' := h') (fun a o vs n e _ => old' a o e) P
    have : ∀ {xs : List (NestedKey × Addr × Value)} {ac : List NP}, Paired (EntOk X.K pp G h') xs ac → ∀ y ∈ xs, NestedIs h' y.1 (.ref y.2.1) ∧ y.1.depth ≤ 8 := by
      intro xs ac Pq
      induction Pq with
      | nil => intro y hy; cases hy
      | cons r t ih =>
        intro y hy
        rcases List.mem_cons.mp hy with rfl | hy
        · exact r.isk
        · exact ih y hy
    exact this P' y hy
  · rintro i v s1 hi hv hst ⟨h, tk, es, acci, m, rfl, hold, hns, hd, P, eg, hla, hile⟩
    have hi' : i < items.length := by simpa using hi
    have hid : i < ds.length := by omega
    have hv' : items[i]? = some v := by simpa using hv
    rw [List.drop_eq_getElem_cons hid] at eg
    obtain ⟨kk, ek1, ek2, ek3, ek4, eg'⟩ := uqGo_cons eg
    obtain ⟨w, hw, rw'⟩ := ra.get (List.getElem?_eq_getElem hid)
    obtain ⟨u, hu', ru⟩ := rvs.get hw
    rw [hv'] at hu'
    cases hu'
    obtain ⟨a, rfl⟩ : ∃ a, w = .ref a := by
      cases e : ds[i] with
      | tuple l =>
        rw [e] at rw'
        obtain ⟨a, _, rfl, _, _⟩ := rv_tup rw'
        exact ⟨a, rfl⟩
      | _ =>
        rw [e] at ek3
        cases ek3
    cases ru
    have isk : NestedIs sB.heap kk (.ref a) := by
      obtain ⟨as, rr⟩ := Dp.reads I _ _ _ (Rv.dp c.ex _ _ rw' ek4) (rfl : RelV (.ref a) (.ref a))
      exact nkey_is _ _ _ _ ek1 rr
    refine wpAny_assign_Name (wpAny_storeName_local hkx hns (fun h1 hn1 hs1 => ?_) hcls)
    have old1 : ∀ b o, sB.heap.get? b = some o → h1.get? b = some o := fun b o e => (hs1.2 b (nD b o e).2.1).trans (hold b o e)
    refine wpAny_tests_nil ?_
    rw [if_pos rfl]
    refine wpAny_Name (wpAny_loadName_local (v := .ref a) hek hkx hn1 (by simp) ?_) hdb
    refine PyProof.Rows.Constant_bool ?_
    have hd1 : h1.DictOfH (nestedKind X.prog X.w) D es := by
      obtain ⟨o, e1, ep, d1, d2, d3, d4, d5, d6⟩ := hd
      refine ⟨o, e1, ep, (hs1.2 D cb.ne).trans d1, d2, d3, d4, fun y hy => ?_, d6⟩
      have h5 := d5 y hy
      have P' := ent_keep (h' := h1) (fun a o vs n e _ => old1 a o e) P
      have : ∀ {xs : List (NestedKey × Addr × Value)} {ac : List NP}, Paired (EntOk X.K pp G h1) xs ac → ∀ y ∈ xs, NestedIs h1 y.1 (.ref y.2.1) ∧ y.1.depth ≤ 8 := by
        intro xs ac Pq
        induction Pq with
        | nil => intro y hy; cases hy
        | cons r t ih =>
          intro y hy
          rcases List.mem_cons.mp hy with rfl | hy
          · exact r.isk
          · exact ih y hy
      exact this P' y hy
    have hlen : es.length ≤ sizeLine := by
      have h1 : es.length = acci.length := Paired.length P
      have h2 := fits_size hf
      omega
    refine wpAny_dictSet_heap (s := { sB with heap := h1, toks := tk + 1 }) (k := kk) room ⟨NestedIs.at (fun a o vs n e _ => old1 a o e) _ _ isk, ek2⟩ hd1 (fun h2 hd2 hs2 => ?_) hlen
    refine ⟨?_, ?_⟩
    · obtain ⟨on, n1, n2, n3, n4⟩ := hn1
      refine ⟨h2, _, _, uqPut kk ds[i] acci, _, rfl, fun b o e => (hs2.2 b (nD b o e).1).trans (old1 b o e), ⟨on, n1, n2, (hs2.2 C cb.ne.symm).trans n3, n4⟩, hd2, ent_stored P rw' ⟨isk, ek2⟩, eg', ?_, by omega⟩
      have := uqPut_len kk ds[i] acci
      omega
    · exact Gs.frame _ _ _ (Gs.frame _ _ _ hst fun b hb o e => (hs1.2 b (fpne b hb).2).trans e) fun b hb o e => (hs2.2 b (fpne b hb).1).trans e
  · rintro s1 ⟨h, tk, es, acci, m, rfl, hold, hns, hd, P, eg, hla, hile⟩
    refine ⟨m, hns, fun h' hs' => ?_⟩
    have old' : ∀ b o, sB.heap.get? b = some o → h'.get? b = some o := fun b o e => (hs'.2 b (nD b o e).2.1).trans (hold b o e)
    have esz : items.toArray.size = ds.length := by simpa using hil
    rw [esz, List.drop_length] at eg
    have eacc : acci = acc := Option.some.inj (show some acci = some acc from eg)
    subst eacc
    obtain ⟨o, e1, ep, d1, d2, d3, d4, d5, d6⟩ := hd
    have dD : h'.get? D = some o := (hs'.2 D cb.ne).trans d1
    obtain ⟨v1, v2⟩ := ent_vals P
    have hD0 : H D = none := I.hok.fresh (Nat.le_of_lt szs.1)
    have ekeys : e1.toList.map (·.key) = es.map fun x => Value.ref x.2.1 := by
      rw [d4, List.map_map]
      rfl
    have I' : Inv X pins σ (upd H D (KeysO D (es.map fun x => V.ref x.2.1))) { sB with heap := h', toks := tk } := I.laid old' (Nat.le_of_lt szs.1) ⟨⟨e1, ep, ⟨o, dD, d2, d3⟩, by rw [ekeys]; exact v1, beq_eq_false_iff_ne.mpr (Nat.ne_of_gt (Nat.lt_trans I.big szs.1))⟩, ⟨o, dD⟩, fun h1 h2 ⟨es', ep', hr, hv⟩ hk => ⟨es', ep', hr.at hk, hv⟩⟩
    exact ⟨.ref D, _, I', rfl, k D _ hD0 v2⟩
end
end DL

set_option Elab.async false
set_option linter.all false
set_option maxRecDepth 100000
namespace DL
open PySem L2
variable [TBL]
theorem uq_len : ∀ (ds : List PyData) (acc out : List NP), uqGo ds acc = some out → out.length ≤ acc.length + ds.length
  | [], acc, out, h => by
    cases h
    simp
  | d :: ds, acc, out, h => by
    obtain ⟨k, _, _, _, _, h2⟩ := uqGo_cons h
    have h3 := uq_len ds _ _ h2
    have h4 := uqPut_len k d acc
    rw [List.length_cons]
    omega
section
variable {X : Cx}
def tUq (K : PySem.W.Frag) (g : EG) : TE := fun σ H Q => ∃ (pp : Option Addr) (ps : Pt) (G : Hp) (S : Sd) (d : PyData) (ds : List PyData) (acc : List NP) (ps' : Pt), Cf pp ps G H ∧ Sl K pp G H S σ ∧ g S ps = some (d, ps') ∧ items d = some ds ∧ fitsL ds = true ∧ uqGo ds [] = some acc ∧
  ∀ D vs G' H', Go pp ps' [] G H G' H' → H' D = none → RvL K pp G' vs (acc.map (·.2)) → Q (.ref D) (upd H' D (KeysO D vs))
theorem pe_uq {x : Str} {iter : Expr} {scope : Scope} {g : EG} {p1 p2 p3 pos : Pos} {j : Nat} (hc : X.calm = true) (hu : X.A.units + 8 < cLine) (hi : PD X iter g) (hx : scope.names.lookup x = some .local) (hkind : scope.kind = .function) (hall : ∀ y ∈ scope.names, y.2 ≠ .cell ∧ y.2 ≠ .free) (hnm : ∀ y ∈ scope.names, y.2 = .local → scope.names.lookup y.1 = some .local)
    (hdb : (x == ("__debug__" : Str)) = false := by decide) (hs : ∀ x, foldedSetIterable iter X.env x = pure x := by intro _; rfl) : PE X (.DictComp (.Name x p1) (.Constant (.bool true) j p3) [⟨.Name x p2, iter, [], 0⟩] scope pos) (tUq X.K g) := by
  refine ⟨fun pins s σ H Q I h => ?_⟩
  obtain ⟨pp, ps, G, S, d, ds, acc, ps', c, sl, e, ei, hf, eu, k⟩ := h
  refine DictComp_goes (cl := cloFrom X.env.cells scope.names []) (closure_ok fun y hy z => absurd z (hall y hy).2) (fun y hy => (hall y hy).1) hkind hnm ?_ hs
  refine thn (hi.run pins s σ H (fun v H1 => ∃ G1, Go pp ps' [] G H G1 H1 ∧ Rv X.K pp G1 v d) I ⟨pp, ps, G, S, d, ps', c, sl, e, fun v G1 H1 g1 r1 => ⟨G1, g1, r1⟩⟩) fun xv s1 ⟨v, H1, I1, rx, G1, g1, r1⟩ => ?_
  have hh : X.A.handled = none := I1.ok.hd hc
  cases d with
  | list l =>
    cases ei
    obtain ⟨a, xs, rfl, hl, ra⟩ := rv_lst r1
    cases rx
    obtain ⟨hz, its, nn, rvs, ho⟩ := (same_l g1.cf.ex hl).ok I1.hok
    have hil : s1.heap.IsList a its.toArray := ⟨_, ho, rfl, _, rfl⟩
    have hne : a ≠ s1.heap.objs.size := Nat.ne_of_lt (Heap.lt_size ho)
    refine wpAny_pyIter_list hil ?_
    refine uq_goes I1 rfl (Goes.list hh s1.heap.objs.size a hne its.toArray) ⟨⟨_, Heap.get?_push_size _ rfl, rfl, rfl⟩, ⟨_, Heap.get?_push_of_some _ ho, rfl, _, rfl⟩⟩ (fun b hb => ?_) hx hkind hu rvs ra g1.cf hf eu hdb fun D vs hD rv => k D vs G1 H1 g1 hD rv
    rcases List.mem_cons.mp hb with rfl | hb
    · exact .inl rfl
    · rcases List.mem_cons.mp hb with rfl | hb
      · exact .inr ⟨_, ho⟩
      · cases hb
  | tuple l =>
    cases ei
    obtain ⟨a, xs, rfl, hl, ra⟩ := rv_tup r1
    cases rx
    obtain ⟨its, rvs, ht, hz⟩ := I1.tuple (cf_t g1.cf hl)
    obtain ⟨o, ho, hcl, nn, hd⟩ := ht
    have hil : s1.heap.IsTuple a its.toArray := ⟨o, ho, hcl, nn, hd⟩
    have hne : a ≠ s1.heap.objs.size := Nat.ne_of_lt (Heap.lt_size ho)
    refine wpAny_pyIter_tuple hil ?_
    refine uq_goes I1 rfl (Goes.tuple hh s1.heap.objs.size a hne its.toArray) ⟨⟨_, Heap.get?_push_size _ rfl, rfl, rfl⟩, ⟨o, Heap.get?_push_of_some _ ho, hcl, nn, hd⟩⟩ (fun b hb => ?_) hx hkind hu rvs ra g1.cf hf eu hdb fun D vs hD rv => k D vs G1 H1 g1 hD rv
    rcases List.mem_cons.mp hb with rfl | hb
    · exact .inl rfl
    · rcases List.mem_cons.mp hb with rfl | hb
      · exact .inr ⟨_, ho⟩
      · cases hb
  | _ => cases ei
theorem cd_listKeys (hc : X.calm = true) : CallR X (.type "list") (fun xs H Q => ∃ D vs, xs = [.ref D] ∧ H D = some (KeysO D vs) ∧ vs.length ≤ sizeLine ∧ ∀ l, H l = none → Q (.ref l) (upd H l (.lst vs))) := by
  intro pins s σ H xs us Q I rs ⟨D, vs, ex, hD, hz, k⟩
  subst ex
  cases rs with
  | cons r t =>
    cases t
    cases r
    obtain ⟨⟨es, ep, hr, hv, hb⟩, _, _⟩ := I.hok D _ hD
    have hn : es.size = vs.length := by
      have := hv.length
      rw [List.length_map, Array.length_toList] at this
      exact this.symm
    refine PySem.W.kdl_call (PySem.KdlSrc.rawDict hb) (I.ok.hd hc) hr (by rw [hn]; exact hz) fun h' tk acc' c' hk hl hi => ?_
    have e2 : acc'.toList = es.toList.map (·.key) := by
      apply List.ext_getElem?
      intro i
      obtain ⟨h1, h2⟩ := hi
      rw [Array.getElem?_toList, List.getElem?_map, Array.getElem?_toList]
      by_cases hlt : i < es.size
      · have hlt' : i < acc'.size := by omega
        obtain ⟨hi', ev⟩ := h2 i acc'[i] (Array.getElem?_eq_getElem hlt')
        rw [Array.getElem?_eq_getElem hlt', Array.getElem?_eq_getElem hlt, ev]
        rfl
      · rw [Array.getElem?_eq_none (by omega), Array.getElem?_eq_none (by omega)]
        rfl
    refine ⟨.ref _, upd H s.heap.objs.size (.lst vs), I.laid hk (Nat.le_refl _) ⟨hz, acc'.toList, c', by rw [e2]; exact hv, by simpa using hl⟩, rfl, k _ (I.hok.fresh (Nat.le_refl _))⟩
/-- list({x: True for x in e}) -/
theorem pd_uniq {x : Str} {iter : Expr} {scope : Scope} {g : EG} {p p1 p2 p3 pos pos2 : Pos} {j : Nat} (hc : X.calm = true) (hu : X.A.units + 8 < cLine) (hg : Gl X "list") (hm : X.mg "list" = none) (hi : PD X iter g) (hx : scope.names.lookup x = some .local) (hkind : scope.kind = .function) (hall : ∀ y ∈ scope.names, y.2 ≠ .cell ∧ y.2 ≠ .free)
    (hnm : ∀ y ∈ scope.names, y.2 = .local → scope.names.lookup y.1 = some .local) (hdb : (x == ("__debug__" : Str)) = false := by decide) (hs : ∀ x, foldedSetIterable iter X.env x = pure x := by intro _; rfl)
    (he : starEach [.DictComp (.Name x p1) (.Constant (.bool true) j p3) [⟨.Name x p2, iter, [], 0⟩] scope pos2] X.env = (false, eval (.DictComp (.Name x p1) (.Constant (.bool true) j p3) [⟨.Name x p2, iter, [], 0⟩] scope pos2) X.env) :: starEach [] X.env := by rfl) (hpl : (backTo pos (starEach [] X.env)).any (·.1) = false := by rfl) :
    PD X (.Call (.Name "list" p) [.DictComp (.Name x p1) (.Constant (.bool true) j p3) [⟨.Name x p2, iter, [], 0⟩] scope pos2] [] pos) (eUn uniqD g) :=
  pe_imp (pe_callTy (cd_listKeys hc) hg hm (by decide +kernel) (pa_cons (pe_uq hc hu hi hx hkind hall hnm hdb hs) pa_nil he) (by decide) (by decide) he hpl) fun σ H Q ⟨pp, ps, G, S, d, ps', c, s, e, k⟩ => by
    obtain ⟨y, p1, e1, e⟩ := bindP_inv e
    obtain ⟨d', e2, e⟩ := map_inv e
    cases e
    unfold uniqD at e2
    split at e2
    · next ds ei =>
      split at e2
      · next hf =>
        obtain ⟨acc, ea, rfl⟩ := map_inv e2
        refine ⟨pp, ps, G, S, y, ds, acc, ps', c, s, e1, ei, hf, ea, fun D vs G1 H1 g1 hD rv => ⟨D, vs, rfl, upd_same, ?_, fun l hl => ?_⟩⟩
        · have h1 : acc.length ≤ ds.length := by
            have := uq_len ds [] acc ea
            simpa using this
          have h2 := fits_size hf
          rw [rv.length, List.length_map]
          omega
        · have gh : Go pp ps' [] G1 H1 G1 (upd H1 D (KeysO D vs)) := Go.hide g1.cf hD
          have gl : Go pp ps' [] G1 (upd H1 D (KeysO D vs)) (upd G1 l (.lst vs)) (upd (upd H1 D (KeysO D vs)) l (.lst vs)) := Go.lay gh.cf hl
          exact k _ _ _ ((g1.trans gh).trans gl) (.lst (.inl upd_same) (RvL.mono gl.gg _ _ rv))
      · cases e2
    · cases e2
end
end DL

set_option Elab.async false
set_option linter.all false
set_option maxRecDepth 100000
/-! D-layer, part j: the pot: made, drawn from, given up again. -/
namespace DL
open PySem L2
variable [TBL]
def isPot : PyData → Bool
  | .dict [(.none, .none), (.none, .none)] => true
  | _ => false
theorem isPot_eq {d : PyData} (h : isPot d = true) : d = potD := by
  unfold isPot at h
  split at h
  · rfl
  · cases h
/-- the numbers that a draw gives and leaves -/
def drawV (m : Int) (ps : Pt) : Int := if 0 < ps.1 then ps.1 % m else ((ps.2 * 39373 + 12227) % 2147483629 * ((ps.2 * 39373 + 12227) % 2147483629) % 2147483563 / 13) % m
def drawS (m : Int) (ps : Pt) : Pt := if 0 < ps.1 then (ps.1 / m, ps.2) else (ps.1, (ps.2 * 39373 + 12227) % 2147483629)
def drawOk (m : Int) (ps : Pt) : Bool := decide (0 < m) && decide (m < 1073741824) && decide (0 ≤ ps.2) && decide (ps.2 < 2147483648)
def drawF : List PyData → Pt → Option (PyData × Pt)
  | [d, .int m], ps => if isPot d && drawOk m ps then some (.int (drawV m ps), drawS m ps) else none
  | _, _ => none
theorem drawF_inv {ds : List PyData} {ps : Pt} {z : PyData × Pt} (h : drawF ds ps = some z) : ∃ m, ds = [potD, .int m] ∧ drawOk m ps = true ∧ z = (.int (drawV m ps), drawS m ps) := by
  match ds, h with
  | [d, .int m], h =>
    have h' : (if isPot d && drawOk m ps then some (PyData.int (drawV m ps), drawS m ps) else none) = some z := h
    split at h'
    · next hc =>
      rw [Bool.and_eq_true] at hc
      rw [isPot_eq hc.1]
      exact ⟨m, rfl, hc.2, (Option.some.inj h').symm⟩
    · cases h'
theorem rv_pot {K : PySem.W.Frag} {pp : Option Addr} {G : Hp} {v : V} (h : Rv K pp G v potD) : ∃ a, v = .ref a ∧ pp = some a := by
  unfold potD at h
  cases h with
  | pot e => exact ⟨_, rfl, e⟩
  | dct _ h =>
    generalize q : PyData.none = z at h
    cases h with
    | @cons k v kvs d es a b => cases k <;> cases q
/-- the pot takes other numbers -/
theorem Go.pot {pp : Option Addr} {ps ps' : Pt} {G H : Hp} {a : Addr} (c : Cf pp ps G H) (ha : pp = some a) : Go pp ps' [] G H G (upd H a (.lst [.int ps'.1, .int ps'.2])) := by
  have hG : G a = none := (c.pot a ha).1
  refine ⟨Same.refl G, ⟨fun b o e => ?_, fun b hb => ?_, tab_upd (c.pot a ha).2 c.tb, c.vt, ot_upd nt_lst c.ot⟩, fun b o e n => absurd (n.symm.trans e) (by simp), fun b o e hb _ _ => ?_, fun b e => ?_⟩
  · rw [upd_ne (ne_of_none e hG)]
    exact c.ex b o e
  · rw [ha] at hb
    cases hb
    exact ⟨hG, upd_same⟩
  · have hne : b ≠ a := fun z => hb (z ▸ ha)
    rw [upd_ne hne]
    exact e
  · by_cases hb : b = a
    · subst hb
      rw [upd_same] at e
      cases e
    · rw [upd_ne hb] at e
      exact e
end DL

set_option Elab.async false
set_option linter.all false
set_option maxRecDepth 100000
/-! D-layer, part k: a new pot for the rest of a block. -/
namespace DL
open PySem L2
variable [TBL]
mutual
def potFree : PyData → Bool
  | .none => true
  | .bool _ => true
  | .int _ => true
  | .str _ => true
  | .list ds => potFreeL ds
  | .tuple ds => potFreeL ds
  | .dict es => potFreeK es
def potFreeL : List PyData → Bool
  | [] => true
  | d :: ds => potFree d && potFreeL ds
def potFreeK : List (PyData × PyData) → Bool
  | [] => true
  | (.none, _) :: _ => false
  | (_, d) :: es => potFree d && potFreeK es
end
section
variable {K : PySem.W.Frag} {pp pp' : Option Addr} {G G' H H' : Hp} {S S' : Sd} {σ σ' : L2.St}
mutual
theorem Rv.swap : ∀ (d : PyData) (v : V), potFree d = true → Rv K pp G v d → Rv K pp' G v d
  | .none, _, _, h => by cases h; exact .non
  | .bool b, _, _, h => by cases h; exact .bl b
  | .int i, _, _, h => by cases h; exact .int i
  | .str x, _, _, h => by cases h; exact .str x
  | .list ds, _, f, h => by
    cases h with
    | lst hs ha => exact .lst hs (RvL.swap ds _ (by simpa only [potFree] using f) ha)
  | .tuple ds, _, f, h => by
    cases h with
    | tup hs ha => exact .tup hs (RvL.swap ds _ (by simpa only [potFree] using f) ha)
  | .dict kvs, _, f, h => by
    cases h with
    | pot q => simp [potFree, potFreeK] at f
    | dct hs ha => exact .dct hs (RvK.swap kvs _ (by simpa only [potFree] using f) ha)
theorem RvL.swap : ∀ (ds : List PyData) (vs : List V), potFreeL ds = true → RvL K pp G vs ds → RvL K pp' G vs ds
  | [], _, _, h => by cases h; exact .nil
  | d :: ds, _, f, h => by
    have f' : potFree d = true ∧ potFreeL ds = true := by simpa only [potFreeL, Bool.and_eq_true] using f
    cases h with
    | cons a b => exact .cons (Rv.swap d _ f'.1 a) (RvL.swap ds _ f'.2 b)
theorem RvK.swap : ∀ (es : List (PyData × PyData)) (kvs : List (Key × V)), potFreeK es = true → RvK K pp G kvs es → RvK K pp' G kvs es
  | [], _, _, h => by cases h; exact .nil
  | (kd, d) :: es, _, f, h => by
    cases h with
    | @cons k v kvs _ _ a b =>
      have f' : potFree d = true ∧ potFreeK es = true := by
        cases k <;> simpa only [keyD, potFreeK, Bool.and_eq_true] using f
      exact .cons (Rv.swap d _ f'.1 a) (RvK.swap es _ f'.2 b)
end
def forget1 : SV → SV
  | .un => .un
  | .dat d => if potFree d then .dat d else .un
  | .own ds => if potFreeL ds then .own ds else .un
def forget (S : Sd) : Sd := S.map forget1
theorem forget_own {i : Nat} {ds : List PyData} (h : (forget S)[i]? = some (.own ds)) : S[i]? = some (.own ds) ∧ potFreeL ds = true := by
  unfold forget at h
  rw [List.getElem?_map] at h
  obtain ⟨sv, h1, h2⟩ := map_inv h
  cases sv with
  | un => cases h2
  | dat d =>
    by_cases hf : potFree d = true
    · rw [show forget1 (.dat d) = .dat d from if_pos hf] at h2
      cases h2
    · rw [show forget1 (.dat d) = .un from if_neg hf] at h2
      cases h2
  | own es =>
    by_cases hf : potFreeL es = true
    · rw [show forget1 (.own es) = .own es from if_pos hf] at h2
      cases h2
      exact ⟨h1, hf⟩
    · rw [show forget1 (.own es) = .un from if_neg hf] at h2
      cases h2
theorem forget_owned {b : Addr} (h : Owned (forget S) σ b) : Owned S σ b := by
  obtain ⟨i, ds, h1, h2⟩ := h
  exact ⟨i, ds, (forget_own h1).1, h2⟩
theorem Sl.forget (s : Sl K pp G H S σ) (hp : ∀ b, Owned S σ b → pp' ≠ some b) : Sl K pp' G H (forget S) σ := by
  refine ⟨by unfold DL.forget; rw [List.length_map]; exact s.len, fun i sv e => ?_, fun i j ds es p e1 e2 e3 e4 => s.apart i j ds es p (forget_own e1).1 (forget_own e2).1 e3 e4⟩
  unfold DL.forget at e
  rw [List.getElem?_map] at e
  obtain ⟨sv0, h1, rfl⟩ := map_inv e
  obtain ⟨o, h2, h3⟩ := s.each i sv0 h1
  refine ⟨o, h2, ?_⟩
  cases sv0 with
  | un => trivial
  | dat d =>
    by_cases hf : potFree d = true
    · rw [show forget1 (.dat d) = .dat d from if_pos hf]
      obtain ⟨v, rfl, r⟩ := h3
      exact ⟨v, rfl, Rv.swap _ _ hf r⟩
    · rw [show forget1 (.dat d) = .un from if_neg hf]
      trivial
  | own ds =>
    by_cases hf : potFreeL ds = true
    · rw [show forget1 (.own ds) = .own ds from if_pos hf]
      obtain ⟨p, vs, rfl, h4, h5, h6, h7⟩ := h3
      exact ⟨p, vs, rfl, h4, h5, hp p ⟨i, ds, h1, h2⟩, RvL.swap _ _ hf h7⟩
    · rw [show forget1 (.own ds) = .un from if_neg hf]
      trivial
end
def forgetO : OutS → Option OutS
  | .nx S => some (.nx (forget S))
  | .rt d => if potFree d then some (.rt d) else none
  | .bk S => some (.bk (forget S))
  | .ct S => some (.ct (forget S))
/-- a def's promise that it hands back a new list of such data -/
def spN (K : PySem.W.Frag) (n : Nat) (fn : List PyData → Pt → Option (List PyData × Pt)) : Sp := fun vs H Q _ => ∃ (pp : Option Addr) (ps : Pt) (G : Hp) (ds es : List PyData) (ps' : Pt), ds.length = n ∧ Cf pp ps G H ∧ RvL K pp G vs ds ∧ fn ds ps = some (es, ps') ∧
  ∀ p us G' H', Go pp ps' [] G H G' H' → H p = none → G' p = none → H' p = some (.lst us) → RvL K pp G' us es → Q (.ref p) H'
abbrev FnN (P : Program) (w : World) (K : PySem.W.Frag) (mg : Str → Option Value) (base : Heap) (k : Nat) (f : Addr) (fd : FuncData) (ps : List Str) (fn : List PyData → Pt → Option (List PyData × Pt)) : Prop := FnG P w K mg base k f fd ps (spN K ps.length fn)
def sPot (i : Nat) (fp : List PyData → Pt → Option (List PyData × Pt)) (gs : AG) (rest : SG) : SG := fun S ps => bindP (gs S ps) fun ds p => match fp ds p with
  | some ([.int a, .int b], p') => match rest ((forget S).set i (.dat potD)) (a, b) with
    | some (r, _) => (forgetO r).map fun r' => (r', p')
    | none => none
  | _ => none
section
variable {X : Cx}
theorem Owned.ne {K : PySem.W.Frag} {pp : Option Addr} {G H : Hp} {S : Sd} {σ : L2.St} {b : Addr} (s : Sl K pp G H S σ) (h : Owned S σ b) : pp ≠ some b ∧ G b = none ∧ ∃ o, H b = some o := by
  obtain ⟨i, ds, h1, h2⟩ := h
  obtain ⟨p, vs, h3, h4, h5, h6, _⟩ := s.own h1
  rw [h2] at h3
  cases h3
  exact ⟨h6, h5, _, h4⟩
/-- back from a pot of one's own to what was before -/
theorem GoS.back {K : PySem.W.Frag} {pp : Option Addr} {ps q' : Pt} {S S1 S' : Sd} {σ σ1 σ' : L2.St} {G H G1 H1 G' H' : Hp} {p : Addr} (c : Cf pp ps G1 H1) (s1 : Sl K pp G1 H1 S σ) (hp : pp ≠ some p) (ho : ∀ b, Owned S1 σ1 b → Owned S σ b) (g : GoS (some p) q' S1 σ1 G1 H1 S' σ' G' H') (hH : H1 p ≠ none) (h0 : H p = none) (g0 : Go pp ps [] G H G1 H1) (hG : G' p = none) (sl : Sl K pp G H S σ) :
    GoS pp ps S σ G H S' σ' G' H' := by
  refine ⟨g0.gg.trans g.gg, ⟨g.cf.ex, fun a ha => ?_, g.cf.tb, g.cf.vt, g.cf.ot⟩, fun b o e n => ?_, fun b o e hb hn nt => ?_, fun b z => ?_, fun b z => g0.none_of (g.there b z)⟩
  · obtain ⟨a1, a2⟩ := c.pot a ha
    have hne : p ≠ a := fun z => hp (z ▸ ha)
    have no : ¬ Owned S σ a := fun z => (Owned.ne s1 z).1 ha
    refine ⟨?_, g.keep a _ a2 (fun z => hne (Option.some.inj z)) (fun z => no (ho a z)) nt_lst⟩
    cases e : G' a with
    | none => rfl
    | some o =>
      rcases g.fresh a o e a1 with z | z
      · rw [a2] at z
        cases z
      · exact absurd (ho a z) no
  · cases q : G1 b with
    | some u => exact .inl (g0.fresh b u q n)
    | none =>
      rcases g.fresh b o e q with z | z
      · exact .inl (g0.none_of z)
      · exact .inr (ho b z)
  · have hbp : b ≠ p := ne_of_none e h0
    exact g.keep b o (g0.keep b o e hb (by simp) nt) (fun z => hbp (Option.some.inj z).symm) (fun z => hn (ho b z)) nt
  · rcases g.own b z with y | y
    · exact .inl (g0.none_of y)
    · exact .inr (ho b y)
theorem pds_pot {k : Nat} {f : Addr} {fd : FuncData} {qs : List Str} {fp : List PyData → Pt → Option (List PyData × Pt)} {i : Nat} {x y : Str} {p pos pos' pos2 : Pos} {e : Expr} {es : List Expr} {gs : AG} {sts : List Stmt} {rest : SG} (hN : X.N.Nodup) (hi : X.N[i]? = some x) (hx : Loc X.env.scope x)
    (F : FnN X.prog X.w X.K X.mg X.base k f fd qs fp) (hr : Rm k X.A) (hg : Gl X y) (hm : X.mg y = some (.ref f)) (hk : PySem.W.keepIn X.K (.ref f) = true) (hb : Binds X.K fd qs []) (ha : PDA X (e :: es) gs) (hl : ∀ S ps ds p, gs S ps = some (ds, p) → ds.length = qs.length) (hrest : PDSs X sts rest)
    (hf : X.fn x = true ∨ X.env.scope.names.lookup x = some .local := by first | exact .inl rfl | exact .inr rfl | assumption)
    (hdb : (y == ("__debug__" : Str)) = false := by decide) (he : starEach (e :: es) X.env = (false, eval e X.env) :: starEach es X.env := by rfl) (hpl : (backTo pos2 (starEach es X.env)).any (·.1) = false := by rfl)
    (hs : swapsWithSole [.Name x pos'] (.Call (.Name y p) (e :: es) [] pos2) pos.line X.env = pure false := by rfl) (hw : swappedStores [.Name x pos'] (.Call (.Name y p) (e :: es) [] pos2) X.env = pure none := by rfl) (h1 : (assignEach [.Name x pos'] X.env).map (·.2) = [assign (.Name x pos') X.env] := by rfl) :
    PDSs X (.Assign [.Name x pos'] (.Call (.Name y p) (e :: es) [] pos2) pos :: sts) (sPot i fp gs rest) :=
  pss_imp (pss_cons (ps_asg (pe_callG F hr hg hm hk hb ha hdb he hpl) (pg_name hN hi hx hf) hs hw h1) hrest) fun D σ H ⟨pp, ps, G, S, r, ps', c, s, e, kk⟩ => by
    obtain ⟨ds, p1, e1, e⟩ := bindP_inv e
    split at e
    · next a b p2 e2 =>
      split at e
      · next r0 q0 e3 =>
        obtain ⟨r1, e4, e⟩ := map_inv e
        cases e
        refine ⟨pp, ps, G, S, ds, p1, c, s, e1, fun vs G1 H1 g1 rv1 => ?_⟩
        refine ⟨pp, p1, G1, ds, _, _, hl _ _ _ _ e1, g1.cf, rv1, e2, fun pa us G2 H2 g2 hp1 hg2 hp2 rvu => ?_⟩
        obtain ⟨va, vb, rfl, ra, rb⟩ := rvl_two rvu
        cases ra
        cases rb
        have g12 := g1.trans g2
        have hp0 : H pa = none := g1.none_of hp1
        have npp : pp ≠ some pa := c.pne hp0
        have s2 := s.go g12
        have npo : ∀ b, Owned S σ b → b ≠ pa := fun b z => by
          obtain ⟨_, _, o, ho⟩ := Owned.ne s z
          exact ne_of_none ho hp0
        have cf2 : Cf (some pa) (a, b) G2 H2 := ⟨g2.cf.ex, fun x hx => by
          cases hx
          exact ⟨hg2, hp2⟩, g2.cf.tb, g2.cf.vt, g2.cf.ot⟩
        have s3 : Sl X.K (some pa) G2 H2 ((forget S).set i (.dat potD)) (σ.set i (some (.ref pa))) := (s2.forget fun b z w => npo b z (Option.some.inj w).symm).set (.pot rfl)
        have ho3 : ∀ b, Owned ((forget S).set i (.dat potD)) (σ.set i (some (.ref pa))) b → Owned S σ b := fun b z => forget_owned (owned_set dat_ne z)
        refine ⟨some pa, (a, b), G2, _, r0, q0, cf2, s3, e3, ?_⟩
        have back : ∀ {S' : Sd} {σ' : L2.St} {G' H' : Hp}, GoS (some pa) q0 ((forget S).set i (.dat potD)) (σ.set i (some (.ref pa))) G2 H2 S' σ' G' H' → GoS pp ps' S σ G H S' σ' G' H' := fun {S' σ' G' H'} g => by
          refine GoS.back g2.cf s2 npp ho3 g (by rw [hp2]; simp) hp0 g12 ?_ s
          exact (g.cf.pot pa rfl).1
        cases r0 with
        | nx S' =>
          cases e4
          intro σ' G' H' g sl
          have gb := back g
          refine kk σ' G' H' ⟨gb.gg, gb.cf, gb.fresh, gb.keep, fun b z => gb.own b (forget_owned z), gb.there⟩ (sl.forget fun b z w => ?_)
          rcases gb.own b z with y | y
          · rw [(c.pot b w).2] at y
            cases y
          · exact (Owned.ne s y).1 w
        | rt d =>
          obtain ⟨hfree, e4⟩ := ite_inv e4
          cases e4
          intro v G' H' g rv
          exact kk v G' H' (back g) (Rv.swap _ _ hfree rv)
        | bk S' =>
          cases e4
          intro σ' G' H' g sl
          have gb := back g
          refine kk σ' G' H' ⟨gb.gg, gb.cf, gb.fresh, gb.keep, fun b z => gb.own b (forget_owned z), gb.there⟩ (sl.forget fun b z w => ?_)
          rcases gb.own b z with y | y
          · rw [(c.pot b w).2] at y
            cases y
          · exact (Owned.ne s y).1 w
        | ct S' =>
          cases e4
          intro σ' G' H' g sl
          have gb := back g
          refine kk σ' G' H' ⟨gb.gg, gb.cf, gb.fresh, gb.keep, fun b z => gb.own b (forget_owned z), gb.there⟩ (sl.forget fun b z w => ?_)
          rcases gb.own b z with y | y
          · rw [(c.pot b w).2] at y
            cases y
          · exact (Owned.ne s y).1 w
      · cases e
    · cases e
/-- x = e; return [a, b, ..]: a new list -/
def runN (n : Nat) (pre : SG) (gs : AG) (ds : List PyData) (ps : Pt) : Option (List PyData × Pt) := match pre (startD n ds) ps with
  | some (.nx S, p) => bindP (gs S p) fun es p' => if fitsL es then some (es, p') else none
  | _ => none
theorem fn_new {P : Program} {w : World} {K : PySem.W.Frag} {mg : Str → Option Value} {base : Heap} {x qual : Str} {st s1 : Stmt} {f : Addr} {fd : FuncData} {N ps : List Str} {k : Nat} {pre : SG} {gs : AG} {es : List Expr} {p1 p2 : Pos} (F : Fun K x qual st f fd) (S : FnScope N ps (defScope st)) (hn : ps.length ≤ N.length)
    (hb : defBody st = [s1, .Return (some (.List es p1)) p2])
    (h1 : ∀ (cdv : Value) (A : Around) (outer : List Env) (s : Shared) (H : Hp) (E : XK), Rm k (A.deeper (PyProof.Rows.envOfC qual (defScope st) s.heap.objs.size f cdv)) → PDS (cxOf CX0 P w K mg base N qual (defScope st) f cdv A outer s H E).nox s1 pre)
    (h2 : ∀ (cdv : Value) (A : Around) (outer : List Env) (s : Shared) (H : Hp) (E : XK), Rm k (A.deeper (PyProof.Rows.envOfC qual (defScope st) s.heap.objs.size f cdv)) → PDA (cxOf CX0 P w K mg base N qual (defScope st) f cdv A outer s H E).nox es gs) :
    FnN P w K mg base (k + 1) f fd ps (runN N.length pre gs) := by
  refine ok_g F S (fun vs H Q E h => ?_) (fun cdv A outer s H vs Q E hr h => ?_)
  · obtain ⟨pp, p, G, ds, d, p', hl, c, r, e, q⟩ := h
    rw [r.length]
    exact hl
  · obtain ⟨pp, p, G, ds, d, p', hl, c, r, e, q⟩ := h
    rw [hb]
    refine ⟨_, pss_cons (h1 cdv A outer s H E hr) (pss_one (ps_ret (pe_lst (h2 cdv A outer s H E hr)))), ?_⟩
    have hvl : vs.length ≤ N.length := by
      rw [r.length, hl]
      exact hn
    unfold runN at e
    split at e
    · next S1 pm eg =>
      obtain ⟨es', pn, e2, e⟩ := bindP_inv e
      obtain ⟨hf, e⟩ := ite_inv e
      cases e
      refine ⟨pp, p, G, _, _, _, c, sl_start r hvl, eg, fun σ' G' H' g' s' => ⟨pp, pm, G', S1, d, _, g'.cf, s', e2, fun us G2 H2 g2 r2 => ⟨by rw [r2.length]; exact fits_size hf, fun pa hp => ?_⟩⟩⟩
      have g0 : Go pp pm [] G H G' H' := g'.toGo fun b => start_own
      have gh : Go pp p' [] G2 H2 G2 (upd H2 pa (.lst us)) := Go.hide g2.cf hp
      exact q pa us G2 _ ((g0.trans g2).trans gh) ((g0.trans g2).none_of hp) (g2.cf.ex.free hp) upd_same r2
    · cases e
end
end DL

set_option Elab.async false
set_option linter.all false
set_option maxRecDepth 100000
/-! D-layer, part l: sorted(e, key=lambda x: ..), the lambda without names of the def around it. -/
namespace DL
open PySem L2
variable [TBL]
def runE (n : Nat) (g : EG) (ds : List PyData) (ps : Pt) : Option (PyData × Pt) := g (startD n ds) ps
section
variable {X : Cx}
/-- tables that were not there before are forgotten -/
def untab (H1 H2 : Hp) : Hp := fun b => match H2 b with
  | some (.tbl ps) => if (H1 b).isSome then some (.tbl ps) else none
  | o => o
theorem untab_nt {H1 H2 : Hp} {b : Addr} {o : HO} (h : H2 b = some o) (nt : NT o) : untab H1 H2 b = some o := by
  unfold untab
  rw [h]
  cases o with
  | tbl ps => exact absurd rfl (nt ps)
  | _ => rfl
theorem untab_some {H1 H2 : Hp} {b : Addr} {o : HO} (h : untab H1 H2 b = some o) : H2 b = some o := by
  unfold untab at h
  split at h
  · next ps e =>
    split at h
    · cases h
      exact e
    · cases h
  · exact h
theorem untab_old {H1 H2 : Hp} {b : Addr} {ps : Array Value} (h : H2 b = some (.tbl ps)) (h1 : (H1 b).isSome = true) : untab H1 H2 b = some (.tbl ps) := by
  unfold untab
  rw [h]
  exact if_pos h1
theorem untab_none {H1 H2 : Hp} {b : Addr} (h : H2 b = none) : untab H1 H2 b = none := by
  unfold untab
  rw [h]
theorem _root_.L2.Inv.untab {pins : List (Addr × Obj)} {σ : L2.St} {H1 H2 : Hp} {s1 s2 : Shared} (I1 : Inv X pins σ H1 s1) (I : Inv X pins σ H2 s2) : Inv X pins σ (untab H1 H2) s2 := by
  refine ⟨I.ok, I.os, I.bare, ⟨I.base.keep, I.base.slot, fun b o e n hx => untab_none (I.base.free b o e n hx), I.base.there, fun b xs e => untab_nt (I.base.tups b xs e) nt_tup, fun b o u e => untab_nt (I.base.frzs b o u e) fun ps z => (by cases z), fun b ps e => ?_⟩, I.loc, I.cell, untab_none I.free, fun x c e => untab_none (I.freeC x c e), fun p hp => ?_, fun a o e => ?_, I.len⟩
  · obtain ⟨m1, h1⟩ := I1.base.tbls b ps e
    obtain ⟨m2, h2⟩ := I.base.tbls b ps e
    exact ⟨m2, untab_old h2 (by rw [h1]; rfl)⟩
  · obtain ⟨a, b, c⟩ := I.pin p hp
    exact ⟨a, untab_none b, c⟩
  · exact (I.hok a o (untab_some e)).stay (fun _ _ _ q => q) (fun b q => untab_nt q fun ps z => (by cases z)) fun b xs q => untab_nt q nt_tup
theorem cal_lam {k : Nat} {f c' : Addr} {a : Str} {N : List Str} {params : Arguments} {body : Expr} {scope : Scope} {pm ctv : Value} {qual : Str} {g : EG} (S : FnScope N [a] scope) (hr : Rm (k + 2) X.A)
    (hbind : ∀ u, bindArgs (PySem.W.kla_fn "<lambda>" qual params body scope [] pm (.ref c') ctv) ⟨[u], []⟩ = pure [(a, u)])
    (hbody : ∀ (A : Around) (outer : List Env) (s : Shared) (H : Hp) (E : XK), Rm k (A.deeper (PyProof.Rows.envOfC qual scope s.heap.objs.size f (.ref c'))) → PD (cxOf CX0 X.prog X.w X.K X.mg X.base N qual scope f (.ref c') A outer s H E).nox body g) :
    CalA X [(f, PySem.W.kla_obj "<lambda>" qual params body scope [] pm c' ctv)] [(c', qual)] (.ref f) (runE N.length g) := by
  intro pins s σ H pp q q' G v u d kd hpn hcs I c r rv e
  have hf : s.heap.get? f = some (PySem.W.kla_obj "<lambda>" qual params body scope [] pm c' ctv) := (I.pin _ (List.mem_append_right _ (hpn (f, _) List.mem_cons_self))).1
  have hc := hcs (c', qual) (by simp)
  have hr' : Rm (k + 1) X.A.in1.in1 := hr.in2
  obtain ⟨⟨oc, vs, t, hoc, hdc, hvc⟩, _, _⟩ := I.hok c' _ hc
  have e0 : Env0 X.prog X.w X.K X.mg X.base X.A.in1.in1 X.stack s H := Env0.in1 (Env0.in1 I.env0)
  have hpl : 1 ≤ N.length := by
    have := congrArg List.length S.pre
    rw [List.length_take] at this
    simp at this
    omega
  have hkind : ∀ y ∈ [a].zip [u], scope.names.lookup y.1 = some .local ∨ (scope.names.lookup y.1 = some .cell ∧ ((cellsFrom (s.heap.objs.size + 1) scope.names []).lookup y.1).isSome = true) := fun ⟨n, v⟩ hy => by
    rcases S.par n (List.of_mem_zip hy).1 with q | q
    · exact .inl q
    · exact .inr ⟨q, PySem.W.cellsFrom_some _ _ _ (.inl q)⟩
  have rc : codeAny (model X.prog X.w) X.A.in1.in1 (.call (.ref f) ⟨[u], []⟩) (CR CX0 X.stack X.prog X.w H s (fun z H' => ∃ G', Go pp q' [] G H G' H' ∧ Rv X.K pp G' z kd) E0) s := by
    refine PySem.W.kla_callFunE hr'.rm.depth hf rfl S.co S.gen rfl ⟨c', oc, vs, t, rfl, hoc, hdc, hvc⟩ ?_
    rw [hbind u]
    refine wpAny_pure ?_
    refine wpAny_newFunctionEnv_cells S.kind hkind fun env he s1 x => ?_
    subst he
    refine ⟨I.nolimit.keeps x.toInCall.keep, ?_⟩
    have J := inv_start (CX := CX0) (E := E0) S hr'.hd e0 rfl (.cons rv .nil) x
    refine PySem.W.kla_codeExpr (wpAny_mono (((hbody X.A.in1.in1 X.stack s H E0 (hr'.dpr _)).nox).run [] _ _ H (fun z H' => ∃ G', Go pp q' [] G H G' H' ∧ Rv X.K pp G' z kd) J ?_) (fun v s' hq => ?_) fun e s' hq => hq)
    · exact ⟨pp, q, G, _, kd, q', c, sl_start (.cons r .nil) hpl, e, fun z G' H' g' r' => ⟨G', g', r'⟩⟩
    · obtain ⟨w', H', J', rv', q⟩ := hq
      exact ⟨w', H', J'.os, J'.bare, J'.base, J'.hok, rv', q⟩
  refine wpAny_call (codeAny_mono rc fun res s' hq => ?_)
  cases res with
  | error e => exact False.elim hq
  | ok fl =>
    cases fl with
    | ret u => exact I.after hq
    | next => exact False.elim hq
    | brk => exact False.elim hq
    | cont => exact False.elim hq
/-- sorted(e, key=lambda a: body): c, P: the running def's code object and its table -/
theorem pd_sortL {k : Nat} {c P : Addr} {a : Str} {N : List Str} {params : Arguments} {body e : Expr} {scope : Scope} {g ge : EG} {p pos lp kp : Pos} (hc : X.calm = true) (S : FnScope N [a] scope) (hr : Rm (k + 2) X.A) (hg : Gl X "sorted") (hm : X.mg "sorted" = none)
    (TB : LamX.TabB X.base X.mg c P) (hcode : X.env.code = .ref c) (hmT : (P, X.env.qual ++ "<lambda>") ∈ TBL.T) (hu : ∀ q ∈ TBL.T, q.1 = P → q.2 = X.env.qual ++ "<lambda>") (hdef : defaultsOf params X.env = ([], [])) (hclo : cloFrom X.env.cells scope.names [] = []) (hnf : ∀ y ∈ scope.names, y.2 ≠ .free)
    (hbind : ∀ (q : Str) (pm cv ctv u : Value), bindArgs (PySem.W.kla_fn "<lambda>" q params body scope [] pm cv ctv) ⟨[u], []⟩ = pure [(a, u)]) (he : PD X e ge)
    (hbody : ∀ (f : Addr) (cv : Value) (A : Around) (outer : List Env) (s : Shared) (H : Hp) (E : XK), Rm k (A.deeper (PyProof.Rows.envOfC (X.env.qual ++ "<lambda>") scope s.heap.objs.size f cv)) → PD (cxOf CX0 X.prog X.w X.K X.mg X.base N (X.env.qual ++ "<lambda>") scope f cv A outer s H E).nox body g)
    (hst : starEach [e] X.env = (false, eval e X.env) :: starEach [] X.env := by rfl) (he2 : backTo pos (starEach [e] X.env) = (false, eval e X.env) :: backTo pos (starEach [] X.env) := by rfl) (hpl : (backTo pos (starEach [e] X.env)).any (·.1) = false := by rfl) :
    PD X (.Call (.Name "sorted" p) [e] [⟨some (Str.ofString "key"), .Lambda params body scope lp, kp⟩] pos) (eSortK (runE N.length g) ge) := by
  have hu66 : X.A.units + 66 < cLine := by
    have := hr.un
    omega
  refine ⟨fun pins s σ H Q I ⟨pp, ps, G, S0, d, ps', c0, s0, e0, kk⟩ => ?_⟩
  obtain ⟨x, p1, e1, e0⟩ := bindP_inv e0
  split at e0
  · next ds =>
    split at e0
    · next hf =>
      obtain ⟨ks, p2, e2, e0⟩ := bindP_inv e0
      obtain ⟨hk, e0⟩ := ite_inv e0
      cases e0
      refine wpAny_Call_Name_kw (ld_blt I hg hm (by decide +kernel : bootBuiltins "sorted" = some (.builtin "sorted")) ?_ (by decide) (by decide))
      refine PyProof.Rows.callWith_kw (thn ((pa_cons he pa_nil hst).run pos pins s σ H (fun vs H1 => ∃ v G1, vs = [v] ∧ Go pp p1 [] G H G1 H1 ∧ Rv X.K pp G1 v (.list ds)) I ⟨pp, ps, G, S0, _, p1, c0, s0, e1, fun v G1 H1 g1 r1 => ⟨v, G1, rfl, g1, r1⟩⟩) fun us s1 ⟨vs, H1, I1, rvs, v, G1, ev, g1, r1⟩ => ?_) he2 hpl rfl rfl
      subst ev
      refine wpAny_evalAll_cons (wpAny_bind (LamX.lam_make2 I1 TB hcode hmT hu g1.cf.tb hdef (fun y hy z => absurd z (hnf y hy)) fun f c' pm ctv H2 s2 I2 hext htab hobj hfn hfr hco => ?_))
      refine wpAny_bind (wpAny_standAt (wpAny_pure (wpAny_evalAll_nil ?_)))
      rw [hclo] at hobj
      have nloc : f ≠ X.env.locals := fun z => by
        obtain ⟨m, ⟨o, es, ep, ho, hd, _⟩, _⟩ := I2.loc
        rw [← z, hobj] at ho
        cases ho
        cases hd
      have nfs : f ∉ X.fs := fun z => hfr (by
        rcases I2.ok.stk with e | ⟨e, hfm⟩
        · rw [e]
          exact z
        · rw [e]
          unfold frs
          rw [List.filterMap_cons, hfm]
          exact List.mem_cons_of_mem _ z)
      have I2' := I1.untab I2
      have I3 : Inv X ((f, _) :: pins) σ (untab H1 H2) s2 := I2'.pins_of fun q hq => by
        rcases List.mem_cons.mp hq with rfl | hq
        · exact ⟨hobj, untab_none hfn, nloc, nfs, fun v z => by cases z⟩
        · exact I2'.pin q (List.mem_append_right _ hq)
      have kp : ∀ b o, H1 b = some o → NT o → untab H1 H2 b = some o := fun b o e nt => untab_nt (hext b o e nt) nt
      have tbs : ∀ b ps, H1 b = some (.tbl ps) → ∃ ps', untab H1 H2 b = some (.tbl ps') := fun b ps e => by
        obtain ⟨q, hq⟩ := g1.cf.ot b ps e
        obtain ⟨ps', h1, _⟩ := htab _ hq
        exact ⟨ps', untab_old h1 (by rw [e]; rfl)⟩
      have htab' : LamX.Tabs TBL.T (untab H1 H2) := fun q hq => by
        obtain ⟨ps', h1, h2, h3⟩ := htab q hq
        obtain ⟨ps0, h0, _⟩ := g1.cf.tb q hq
        refine ⟨ps', untab_old h1 (by rw [h0]; rfl), h2, fun pos cv hcv => ?_⟩
        obtain ⟨c1, e1, e2⟩ := h3 pos cv hcv
        exact ⟨c1, e1, untab_nt e2 fun ps z => LamX.codeO_ne ps z⟩
      have g2 : Go pp p1 [] G1 H1 G1 (untab H1 H2) := by
        refine ⟨Same.refl G1, ⟨fun b o e => kp b o (g1.cf.ex b o e) fun ps z => g1.cf.vt b ps (z ▸ e), fun a ha => ⟨(g1.cf.pot a ha).1, kp a _ (g1.cf.pot a ha).2 nt_lst⟩, htab', g1.cf.vt, fun b ps e => ?_⟩, fun b o e n => absurd (n.symm.trans e) (by simp), fun b o e _ _ nt => kp b o e nt, fun b e => ?_⟩
        · have e2 := untab_some e
          cases q : H1 b with
          | none =>
            unfold untab at e
            rw [e2, q] at e
            cases e
          | some o =>
            by_cases ht : ∃ ps', o = .tbl ps'
            · obtain ⟨ps', rfl⟩ := ht
              exact g1.cf.ot b ps' q
            · have := hext b o q fun ps' z => ht ⟨ps', z⟩
              rw [e2] at this
              exact absurd ⟨ps, (Option.some.inj this).symm⟩ ht
        · cases q : H1 b with
          | none => rfl
          | some o =>
            by_cases ht : ∃ ps', o = .tbl ps'
            · obtain ⟨ps', rfl⟩ := ht
              obtain ⟨ps2, h2⟩ := tbs b ps' q
              rw [h2] at e
              cases e
            · rw [kp b o q fun ps' z => ht ⟨ps', z⟩] at e
              cases e
      obtain ⟨l, xs, rfl, hl, ra⟩ := rv_lst r1
      cases rvs with
      | cons rv0 rv1 =>
        cases rv1
        cases rv0
        have C := cal_lam (X := X) (k := k) (f := f) (c' := c') (a := a) (N := N) (params := params) (body := body) (scope := scope) (pm := pm) (ctv := ctv) (qual := X.env.qual ++ "<lambda>") (g := g) S hr (fun u => hbind _ _ _ _ u) fun A outer s H E hrr => hbody f (.ref c') A outer s H E hrr
        have fin := sort_key (Q := Q) (pins := (f, _) :: pins) (fun p hp => by
          rcases List.mem_cons.mp hp with rfl | hp
          · exact List.mem_cons_self
          · cases hp) (fun p hp => by
          rcases List.mem_cons.mp hp with rfl | hp
          · exact untab_nt hco fun ps z => LamX.codeO_ne ps z
          · cases hp) I3 hu66 C g2.cf hl ra hf e2 hk fun v G' H' g' r' => kk v G' H' ((g1.trans g2).trans g') r'
        exact thn fin fun u s3 ⟨v, H3, I4, r4, q4⟩ => ⟨v, H3, I4.pop, r4, q4⟩
    · cases e0
  · cases e0
end
end DL

set_option Elab.async false
set_option linter.all false
set_option maxRecDepth 100000
/-! D-layer, part m: y = [..], powers, small helpers for printed terms. -/
namespace DL
open PySem L2
variable [TBL]
section
variable {X : Cx}
theorem pds_setLc {i : Nat} {y : Str} {py : Pos} {elt tg iter : Expr} {ifs : List Expr} {scope : Scope} {own : List (Str × Nat)} {pos spos : Pos} {it : AG} {is : List Nat} {t : Tgt} {test : BG} {ge : EG} (hc : X.calm = true) (hN : X.N.Nodup) (hy : X.N[i]? = some y) (hyl : X.env.scope.names.lookup y = some .local)
    (hsw : swapsWith (.ListComp elt [⟨tg, iter, ifs, 0⟩] scope pos) (some (.Name y py)) spos.line X.env = pure true) (hi : PDI X tg iter it) (ok : BlkOk X.N X.env.scope scope own)
    (hg : ∀ (s : Shared) (H : Hp) (C : Addr) (cl : List (Str × Addr)) (fp : List Addr), PDG (X.blk s H scope (compEnvC scope cl C X.env) fp) tg is t)
    (ht : ∀ (s : Shared) (H : Hp) (C : Addr) (cl : List (Str × Addr)) (fp : List Addr), PDTs (X.blk s H scope (compEnvC scope cl C X.env) fp) ifs test)
    (he : ∀ (s : Shared) (H : Hp) (C : Addr) (cl : List (Str × Addr)) (fp : List Addr), PD (X.blk s H scope (compEnvC scope cl C X.env) fp) elt ge)
    (hv : ∀ i ∈ is, i ∈ own.map (·.2)) (hs : ∀ x, foldedSetIterable iter X.env x = pure x := by intro _; rfl) : PDS X (.Assign [.Name y py] (.ListComp elt [⟨tg, iter, ifs, 0⟩] scope pos) spos) (sSet i (eLc it t test ge (own.map (·.2)))) :=
  ps_imp (ps_setLc hc hN hy hyl hsw hi ok hg ht he hs) fun D σ H ⟨pp, ps, G, S, r, ps', c, s, e, k⟩ => by
    obtain ⟨d, p1, e1, e⟩ := bindP_inv e
    cases e
    refine lc_data hv X.K σ H _ ⟨pp, ps, G, S, d, _, c, s, e1, fun v G' H' g' r' => ?_⟩
    exact k _ G' H' (g'.toS fun b z => owned_set dat_ne z) ((s.go g').set r')
def powI : PyData → PyData → Option PyData := onI2 (fun i j => decide (0 ≤ j) && decide (j ≤ 1000000) && decide (i.natAbs < 2 ^ 64)) fun i j => .int (i ^ j.toNat)
theorem opd_pow : OpD X (binaryOp .Pow) powI := opd_int op_pow fun _ _ h => by
  rw [Bool.and_eq_true, Bool.and_eq_true] at h
  exact ⟨of_decide_eq_true h.1.1, of_decide_eq_true h.1.2, of_decide_eq_true h.2⟩
end
theorem aNil_l : ∀ (S : Sd) (ps : Pt) (ds : List PyData) (p : Pt), aNil S ps = some (ds, p) → ds.length = 0 := fun _ _ _ _ h => by
  cases h
  rfl
theorem aCons_l {n : Nat} {g : EG} {gs : AG} (h : ∀ (S : Sd) (ps : Pt) (ds : List PyData) (p : Pt), gs S ps = some (ds, p) → ds.length = n) : ∀ (S : Sd) (ps : Pt) (ds : List PyData) (p : Pt), aCons g gs S ps = some (ds, p) → ds.length = n + 1 := fun S ps ds p e => by
  obtain ⟨d, p1, e1, e⟩ := bindP_inv e
  obtain ⟨ds', p2, e2, e⟩ := bindP_inv e
  cases e
  rw [List.length_cons, h _ _ _ _ e2]
theorem hu_n {A : Around} {k : Nat} (hr : Rm k A) (n : Nat) (hn : n ≤ 199) : A.units + n < cLine := by
  have := hr.un
  omega
end DL

set_option Elab.async false
set_option linter.all false
set_option maxRecDepth 100000
/-! D-layer, part n: a def whose code object is known (it makes lambdas). -/
namespace DL
open PySem L2
structure FunC (K : PySem.W.Frag) (x qual : Str) (st : Stmt) (f : Addr) (fd : FuncData) (c : Addr) : Prop where
  ex : ∃ (oc : Value) (od : Option Addr) (kV doc pm : Value) (an : Option Addr) (ct : Value) (osl : Array (Option Value)),
    fd = PySem.W.fnOf x qual (defArgs st) (defBody st) (defScope st) .none kV doc pm an (.ref c) ct ∧ K.lookup f = some ⟨oc, od, .func fd, osl⟩ ∧ PySem.W.codeIn K (.ref c) qual = true
section
variable [TBL]
theorem fn_of_bodyC {P : Program} {w : World} {K : PySem.W.Frag} {mg : Str → Option Value} {base : Heap} {x qual : Str} {st : Stmt} {f c : Addr} {fd : FuncData} {N ps : List Str} {k : Nat} {g : SG} (F : FunC K x qual st f fd c) (S : FnScope N ps (defScope st)) (hn : ps.length ≤ N.length)
    (hbody : ∀ (A : Around) (outer : List Env) (s : Shared) (H : Hp) (E : XK), Rm k (A.deeper (PyProof.Rows.envOfC qual (defScope st) s.heap.objs.size f (.ref c))) → PDSs (cxOf CX0 P w K mg base N qual (defScope st) f (.ref c) A outer s H E).nox (defBody st) g) :
    FnD P w K mg base (k + 1) f fd ps (runF N.length g) := by
  obtain ⟨oc, od, kV, doc, pm, an, ct, osl, rfl, lk, hcd⟩ := F.ex
  refine of_g lk hcd S (fun vs H Q E h => ?_) (fun A outer s H vs Q E hr h => ?_)
  · obtain ⟨pp, p, G, ds, d, p', hl, c, r, e, q⟩ := h
    rw [r.length]
    exact hl
  · obtain ⟨pp, p, G, ds, d, p', hl, c, r, e, q⟩ := h
    refine ⟨_, hbody A outer s H E hr, ?_⟩
    have hvl : vs.length ≤ N.length := by
      rw [r.length, hl]
      exact hn
    unfold runF at e
    split at e
    · next d' p1 eg =>
      cases e
      exact ⟨pp, p, G, _, _, _, c, sl_start r hvl, eg, fun v G' H' g' r' => q v G' H' (g'.toGo fun b => start_own) r'⟩
    · next S' p1 eg =>
      cases e
      exact ⟨pp, p, G, _, _, _, c, sl_start r hvl, eg, fun σ' G' H' g' s' => q _ G' H' (g'.toGo fun b => start_own) .non⟩
    · cases e
end
theorem FunC.fn {K : PySem.W.Frag} {x qual : Str} {st : Stmt} {f c : Addr} {fd : FuncData} (F : FunC K x qual st f fd c) (kp : PySem.W.keepIn K (.ref f) = true) : Fun K x qual st f fd := by
  obtain ⟨oc, od, kV, doc, pm, an, ct, osl, e, lk, hcd⟩ := F.ex
  exact ⟨⟨oc, od, kV, doc, pm, an, .ref c, ct, osl, e, lk, hcd⟩, kp⟩
end DL

set_option Elab.async false
set_option linter.all false
set_option maxRecDepth 100000
/-! D-layer, part o: the law's end, called where no text of a thing is being written. -/
namespace DL
open PySem L2 PyProof.Rows
section
variable [TBL]
/-- what is tracked when the law is called: the script and the tables -/
def H0 (a : Addr) (o : Obj) (ns : List Int) : Hp := fun b => if b = a then some (.frz o (.lst (ns.map V.int))) else if TBL.T.any (fun q => q.1 == b) then some (.tbl #[]) else none
theorem h0_a {a : Addr} {o : Obj} {ns : List Int} : H0 a o ns a = some (.frz o (.lst (ns.map V.int))) := if_pos rfl
theorem h0_t {a b : Addr} {o : Obj} {ns : List Int} {q : Str} (h : (b, q) ∈ TBL.T) (n : b ≠ a) : H0 a o ns b = some (.tbl #[]) :=
  (if_neg n).trans (if_pos (List.any_eq_true.mpr ⟨(b, q), h, beq_self_eq_true b⟩))
theorem h0_cases {a : Addr} {o : Obj} {ns : List Int} (b : Addr) : (b = a ∧ H0 a o ns b = some (.frz o (.lst (ns.map V.int)))) ∨ (b ≠ a ∧ (∃ q, (b, q) ∈ TBL.T) ∧ H0 a o ns b = some (.tbl #[])) ∨ (b ≠ a ∧ H0 a o ns b = none) := by
  by_cases h1 : b = a
  · subst h1
    exact .inl ⟨rfl, h0_a⟩
  · by_cases h2 : TBL.T.any (fun q => q.1 == b) = true
    · obtain ⟨⟨c, q⟩, hq, e⟩ := List.any_eq_true.mp h2
      have : c = b := beq_iff_eq.mp e
      subst this
      exact .inr (.inl ⟨h1, ⟨q, hq⟩, h0_t hq h1⟩)
    · exact .inr (.inr ⟨h1, (if_neg h1).trans (if_neg h2)⟩)
theorem law_run {P : Program} {w : World} {K : PySem.W.Frag} {mg mb : Str → Option Value} {k : Nat} {fa a : Addr} {cs : List (Addr × Addr)} {fd : FuncData} {x : Str} {fn : List PyData → Pt → Option (PyData × Pt)} {sA : Shared} {vs : List Value} {ns : List Int}
    (hK : K.In sA.heap) (hmn : sA.heap.Ns mainGlobals mg) (hbn : sA.heap.Ns builtinsNs mb) (hbo : ∀ y : Str, y ≠ "__name__" → mb y = bootBuiltins y) (hlim : sA.heap.NoLimit) (hgen : sA.gens = #[])
    (hT : ∀ p ∈ cs, sA.heap.get? p.2 = some { cls := .none, data := .fields #[] }) (nT : ∀ p ∈ cs, K.lookup p.2 = none) (hC : ∀ p ∈ cs, PySem.W.CodeHd sA.heap p.1 p.2)
    (hbm : ∃ (bm : Addr) (ob : Obj), mg "__builtins__" = some (.ref bm) ∧ bm ≠ builtinsNs ∧ sA.heap.get? bm = some ob ∧ ob.cls = .type "module" ∧ ob.dict = some builtinsNs ∧ ob.data = .plain)
    (ha : sA.heap.get? a = some { cls := .type "list", data := .seq vs.toArray }) (hi : IntsAre vs ns) (hl : ns.length ≤ sizeLine) (hr : Rm k callerA) (noL : ∀ b o, K.lookup b = some o → o.cls ≠ .type "list")
    (hTB : ∀ q ∈ TBL.T, ∃ c, (c, q.1) ∈ cs) (F : ∀ base : Heap, K.In base → base.Ns mainGlobals mg → (∀ p ∈ cs, LamX.TabB base mg p.1 p.2) → (∃ o, base.get? sysModules = some o) → FnD P w K mg base k fa fd [x] fn) (hsy : ∃ mm, sA.heap.Ns sysModules mm) (hbind : ∀ (s : Shared) (u : Value), BindsTo s fd ⟨[u], []⟩ [(x, u)])
    (hlaw : ∃ ps, fn [.list (ns.map .int)] (0, 0) = some (.bool true, ps)) :
    codeAny (model P w) callerA (.call (.ref fa) ⟨[.ref a], []⟩) (fun r s' => r = .ok (.ret (.bool true)) ∧ OldK sA.heap s'.heap ∧ s'.os = sA.os ∧ AllBare s'.gens) sA := by
  have tobj : ∀ {b : Addr} {q : Str}, (b, q) ∈ TBL.T → sA.heap.get? b = some { cls := .none, data := .fields #[] } := fun {b q} h => by
    obtain ⟨c, hc⟩ := hTB (b, q) h
    exact hT _ hc
  have tne : ∀ {b : Addr} {q : Str}, (b, q) ∈ TBL.T → b ≠ a := fun {b q} h z => by
    have h1 := tobj h
    rw [z, ha] at h1
    have h2 := congrArg Obj.data (Option.some.inj h1)
    cases h2
  let o : Obj := { cls := .type "list", data := .seq vs.toArray }
  let H : Hp := H0 a o ns
  have fr : ∀ {b : Addr} {ob : Obj}, sA.heap.get? b = some ob → (∀ us n, ob.data ≠ .seq us n) → ob.data ≠ .fields #[] → H b = none := fun {b ob} e h1 h2 => by
    rcases h0_cases (a := a) (o := o) (ns := ns) b with ⟨z, _⟩ | ⟨_, ⟨q, hq⟩, _⟩ | ⟨_, z⟩
    · rw [z, ha] at e
      cases e
      exact absurd rfl (h1 _ _)
    · rw [tobj hq] at e
      cases e
      exact absurd rfl h2
    · exact z
  have frD : ∀ {b : Addr} {ob : Obj} {es : Array DictEntry} {ep : Nat}, sA.heap.get? b = some ob → ob.data = .dict es ep → H b = none := fun {b ob es ep} e d => fr e (fun us n z => by rw [d] at z; cases z) (fun z => by rw [d] at z; cases z)
  have nsB : ∀ {b : Addr} {m : Str → Option Value}, sA.heap.Ns b m → (hidT sA.heap H).Ns b m := fun {b m} ⟨ob, es, ep, e, d, z⟩ => ⟨ob, es, ep, hidT_get e (frD e d), d, z⟩
  have kB : K.In (hidT sA.heap H) := fun b ob e => by
    refine hidT_get (hK b ob e) ?_
    rcases h0_cases (a := a) (o := o) (ns := ns) b with ⟨z, _⟩ | ⟨_, ⟨q, hq⟩, _⟩ | ⟨_, z⟩
    · have h1 := hK b ob e
      rw [z, ha] at h1
      cases h1
      exact absurd rfl (noL b _ e)
    · obtain ⟨c, hc⟩ := hTB (b, q) hq
      have h1 := nT _ hc
      rw [show ((c, (b, q).1) : Addr × Addr).2 = b from rfl, e] at h1
      cases h1
    · exact z
  have md : L2.Mod K mg (hidT sA.heap H) := ⟨kB, nsB hmn, ⟨mb, nsB hbn, hbo⟩, let ⟨mc, h1, h2⟩ := hlim; ⟨mc, nsB h1, h2⟩⟩
  have tabs : ∀ p ∈ cs, LamX.TabB (hidT sA.heap H) mg p.1 p.2 := fun p hp => by
    have hTp := hT p hp
    constructor
    · obtain ⟨oc, us, file, tf, flags, tg, inF, text, tt, e1, r1, r2, rest⟩ := hC p hp
      refine ⟨oc, us, file, tf, flags, tg, inF, text, tt, hidT_get e1 (fr e1 (fun us n z => by rw [r2] at z; cases z) fun z => ?_), r1, r2, rest⟩
      rw [r2] at z
      cases z
      simp at rest
    · obtain ⟨bm, ob, b1, b2, b3, b4, b5, b6⟩ := hbm
      refine ⟨bm, ob, b1, b2, fun z => ?_, fun z => ?_, hidT_get b3 (fr b3 (fun us n z => by rw [b6] at z; cases z) fun z => by rw [b6] at z; cases z), b4, b5, b6⟩
      · obtain ⟨og, es, ep, e, d, _⟩ := hmn
        rw [z, e] at b3
        cases b3
        rw [d] at b6
        cases b6
      · rw [z, hTp] at b3
        cases b3
        cases b6
    · intro z
      obtain ⟨og, es, ep, e, d, _⟩ := hmn
      rw [z, hTp] at e
      cases e
      cases d
  have hok : HOk P w H sA.heap := fun b u z => by
    rcases h0_cases (a := a) (o := o) (ns := ns) b with ⟨y, e⟩ | ⟨_, ⟨q, hq⟩, e⟩ | ⟨_, e⟩
    · have z' := e.symm.trans z
      cases z'
      subst y
      exact ⟨ha, by rw [List.length_map]; exact hl, vs, _, vals_ints hi, ha⟩
    · have z' := e.symm.trans z
      cases z'
      exact tobj hq
    · have z' := e.symm.trans z
      cases z'
  have env : Env0 P w K mg (hidT sA.heap H) callerA [] sA H := ⟨rfl, md, fun b ob e => of_hidT e, Nat.le_of_eq (hidT_size _ _), trivial, fun b hb => absurd (show b ∈ ([] : List Addr) from hb) (by simp), hok, .of_eq hgen⟩
  obtain ⟨ps, hps⟩ := hlaw
  let G : Hp := fun b => if b = a then H a else none
  have hG : Rd G a (.lst (ns.map V.int)) := .inr ⟨o, (if_pos rfl).trans h0_a⟩
  have rvl : ∀ ms : List Int, RvL K none G (ms.map V.int) (ms.map PyData.int) := fun ms => by
    induction ms with
    | nil => exact .nil
    | cons m r ih => exact .cons (.int m) ih
  have cf : Cf none (0, 0) G H := by
    refine ⟨fun b u e => ?_, fun b z => (nomatch z), fun q hq => LamX.TabS.nil (h0_t (q := q.2) hq (tne (q := q.2) hq)), fun b us e => ?_, fun b us e => ?_⟩
    · have e' : (if b = a then H a else none) = some u := e
      split at e'
      · next hb =>
        rw [hb]
        exact e'
      · cases e'
    · have e' : (if b = a then H a else none) = some (.tbl us) := e
      split at e'
      · have e2 := (h0_a (a := a) (o := o) (ns := ns)).symm.trans e'
        cases e2
      · cases e'
    · rcases h0_cases (a := a) (o := o) (ns := ns) b with ⟨_, z⟩ | ⟨_, hq, _⟩ | ⟨_, z⟩
      · have e2 := z.symm.trans e
        cases e2
      · exact hq
      · have e2 := z.symm.trans e
        cases e2
  refine codeAny_mono ((F _ kB (nsB hmn) tabs (let ⟨mm, hm⟩ := hsy; let ⟨os, _, _, e, _⟩ := nsB hm; ⟨os, e⟩)).go callerA [] sA H ⟨[.ref a], []⟩ [.ref a] [.ref a] (fun v _ => v = .bl true) E0 hr env (hbind sA (.ref a)) (.cons rfl .nil) ⟨none, (0, 0), G, [.list (ns.map .int)], .bool true, ps, rfl, cf, .cons (.lst hG (rvl ns)) .nil, hps, fun v G' H' g' r' => rv_bl r'⟩) fun r s' h => ?_
  cases r with
  | error e => exact False.elim h
  | ok fl =>
    cases fl with
    | next => exact False.elim h
    | brk => exact False.elim h
    | cont => exact False.elim h
    | ret u =>
      obtain ⟨v, H', os, bare, un, hok', rv, q⟩ := h
      have q' : v = .bl true := q
      subst q'
      obtain rfl : u = Value.bool true := rv
      have stay : ∀ b ob, sA.heap.get? b = some ob → s'.heap.get? b = some ob ∨ ∃ q, (b, q) ∈ TBL.T := fun b ob e => by
        rcases h0_cases (a := a) (o := o) (ns := ns) b with ⟨y, z⟩ | ⟨_, hq, _⟩ | ⟨_, z⟩
        · obtain ⟨e1, _⟩ := hok b _ z
          obtain ⟨e2, _⟩ := hok' b _ (un.frzs b o _ z)
          rw [e] at e1
          cases e1
          exact .inl e2
        · exact .inr hq
        · exact .inl (un.keep b ob e z (fun y => absurd (show b ∈ ([] : List Addr) from y) (by simp)) (by simp))
      have grown : ∀ {b : Addr} {q : Str}, (b, q) ∈ TBL.T → ∃ more : Array Value, s'.heap.get? b = some { cls := .none, data := .fields more } := fun {b q} hq => by
        obtain ⟨more, z⟩ := un.tbls b #[] (h0_t hq (tne hq))
        exact ⟨_, hok' b _ z⟩
      refine ⟨rfl, ⟨fun b ob e => ?_, fun b ob e => ?_⟩, os, bare⟩
      · rcases stay b ob e with z | ⟨q, hq⟩
        · exact .inl z
        · obtain ⟨c, hc⟩ := hTB (b, q) hq
          obtain ⟨more, hm⟩ := grown hq
          rw [tobj hq] at e
          cases e
          exact .inr (.inl ⟨((hC _ hc).tab (hT _ hc)).isCodeTable, rfl, #[], more, rfl, by rw [Array.empty_append]; exact hm⟩)
      · rcases stay b ob e with z | ⟨q, hq⟩
        · exact ⟨ob, z⟩
        · obtain ⟨more, hm⟩ := grown hq
          exact ⟨_, hm⟩
end
/-- what is known of the law's def where the head has ended -/
def LawD (l : PySem.W.OpenLaw) (w : World) (K : PySem.W.Frag) (k n : Nat) (x : Str) (mg : Str → Option Value) (fa : Addr) (h : Heap) : Prop :=
  ∃ (T : TBL) (fd : FuncData) (cs : List (Addr × Addr)) (fn : List PyData → Pt → Option (PyData × Pt)), (∀ p ∈ cs, h.get? p.2 = some { cls := .none, data := .fields #[] }) ∧ (∀ p ∈ cs, K.lookup p.2 = none) ∧ (∀ p ∈ cs, PySem.W.CodeHd h p.1 p.2) ∧ (∀ (s : Shared) (u : Value), BindsTo s fd ⟨[u], []⟩ [(x, u)]) ∧
    (∀ q ∈ T.T, ∃ c, (c, q.1) ∈ cs) ∧ (∀ b o, K.lookup b = some o → o.cls ≠ .type "list") ∧ (∀ base : Heap, K.In base → base.Ns mainGlobals mg → (∀ p ∈ cs, LamX.TabB base mg p.1 p.2) → (∃ o, base.get? sysModules = some o) → FnD l.prog w K mg base k fa fd [x] fn) ∧
    ∀ ns : List Int, ns.length ≤ n → (∀ z ∈ ns, Builtin.Int.intBits z ≤ 1048576) → ∃ ps, fn [.list (ns.map .int)] (0, 0) = some (.bool true, ps)
theorem law_at [T : TBL] {l : PySem.W.OpenLaw} {w : World} {K : PySem.W.Frag} {k n : Nat} {x : Str} {mg : Str → Option Value} {fa : Addr} {h : Heap} {fd : FuncData} {cs : List (Addr × Addr)} {fn : List PyData → Pt → Option (PyData × Pt)}
    (hT : ∀ p ∈ cs, h.get? p.2 = some { cls := .none, data := .fields #[] }) (nT : ∀ p ∈ cs, K.lookup p.2 = none) (C : ∀ p ∈ cs, PySem.W.CodeHd h p.1 p.2) (hb : ∀ (s : Shared) (u : Value), BindsTo s fd ⟨[u], []⟩ [(x, u)]) (hTB : ∀ q ∈ TBL.T, ∃ c, (c, q.1) ∈ cs) (noL : ∀ a o, K.lookup a = some o → o.cls ≠ .type "list")
    (F : ∀ base : Heap, K.In base → base.Ns mainGlobals mg → (∀ p ∈ cs, LamX.TabB base mg p.1 p.2) → (∃ o, base.get? sysModules = some o) → FnD l.prog w K mg base k fa fd [x] fn)
    (hlaw : ∀ ns : List Int, ns.length ≤ n → (∀ z ∈ ns, Builtin.Int.intBits z ≤ 1048576) → ∃ ps, fn [.list (ns.map .int)] (0, 0) = some (.bool true, ps)) : LawD l w K k n x mg fa h :=
  ⟨T, fd, cs, fn, hT, nT, C, hb, hTB, noL, F, hlaw⟩
theorem walk_D {l : PySem.W.OpenLaw} {n k : Nat} {q : Program} {loose : List Str} {XP : (Str → Option Value) → Heap → Prop} {YP : World → Heap → Prop} {d : DefRec} {K : Params → PySem.W.Frag} {x : Str} (hn : l.most = some n) (hn2 : n ≤ sizeLine) (hdf : d.params.defaults = []) (hq : importsNone q = true) (hr : Rm k callerA) (hY : ∀ (w : World) (h : Heap), YP w h → (K w.params).In h)
    (F : ∀ (w : World) (mg : Str → Option Value) (fa : Addr) (h : Heap), YP w h → (K w.params).In h → h.Ns mainGlobals mg → mg d.name = some (.ref fa) → LawD l w (K w.params) k n x mg fa h) : PySem.W.WalkO q loose XP YP l.row.toRowW d [] (fun f vs => PySem.call f vs) := by
  apply Att.attach_callB hn hdf
  intro w s0 s1 mg mb fa o pm cd doc a vs ns G Y ho hd hcd hmg hobj hints hlen hbits hg
  have KX := hY w _ Y
  obtain ⟨T, fd, cs, fn, hT, nT, C, hb, hTB, noL, hF, hlaw⟩ := F w mg fa _ Y KX G.T.g hmg
  exact @law_run T _ _ _ _ _ _ _ _ _ _ _ _ _ _ _ KX G.T.g G.T.b G.T.builtins G.T.nolimit hg hT nT C G.T.bmain hobj hints (Nat.le_trans hlen hn2) hr noL hTB hF (let ⟨mm, hm, _⟩ := (G.T.seer hq).mods; ⟨mm, hm⟩) hb (hlaw ns hlen hbits)
end DL

set_option Elab.async false
set_option linter.all false
set_option maxRecDepth 100000
/-! D-layer, part p: repr. -/
namespace DL
open PySem L2
variable [TBL]
section
variable {X : Cx} {pins : List (Addr × Obj)} {σ : L2.St} {H G : Hp} {s : Shared} {pp : Option Addr}
theorem rd_ne {a b : Addr} {u : HO} (h : Rd H a u) (n : H b = none) : a ≠ b := fun z => by
  subst z
  rcases h with h | ⟨o, h⟩ <;> rw [n] at h <;> cases h
theorem key_reads {P : Program} {w : World} {hp : Heap} : ∀ {es : List DictEntry} {ks : List (Key × Value)} {kvs : List (Key × V)}, Pairs (mixKind P w) es ks → KV kvs ks → ∃ as, ReadsAll hp (es.map (·.key)) (kvs.map fun p => keyD p.1) as ∧ sysModules ∉ as ∧ Vals (kvs.map (·.2)) (es.map (·.val))
  | _, _, _, .nil, r => by
    cases r
    exact ⟨_, ReadsAll.nil, by simp, .nil⟩
  | _, _, _, .cons h1 h2 h3, r => by
    cases r with
    | cons r1 r2 =>
      obtain ⟨as, q1, q2, q3⟩ := key_reads (hp := hp) h3 r2
      rw [mixKind_is, ← r1.1] at h1
      rcases keyIs_shape h1 with ⟨i, t, e1, e2⟩ | ⟨x, t, e1, e2⟩
      · refine ⟨_, ReadsAll.cons (as := []) ?_ q1, by simpa using q2, .cons ?_ q3⟩
        · dsimp only
          rw [e1, e2]
          exact Reads.int i t
        · dsimp only
          rw [h2]
          exact r1.2
      · refine ⟨_, ReadsAll.cons (as := []) ?_ q1, by simpa using q2, .cons ?_ q3⟩
        · dsimp only
          rw [e1, e2]
          exact Reads.str x t
        · dsimp only
          rw [h2]
          exact r1.2
theorem rvk_keys : ∀ {kvs : List (Key × V)} {es : List (PyData × PyData)}, RvK X.K pp G kvs es → es.map (·.1) = kvs.map fun p => keyD p.1
  | _, _, .nil => rfl
  | _, _, .cons _ t => by
    rw [List.map_cons, List.map_cons, rvk_keys t]
mutual
theorem Rv.reads (I : Inv X pins σ H s) (e : Same G H) (hs : H sysModules = none) : ∀ (d : PyData) (v : V) (u : Value), potFree d = true → Rv X.K pp G v d → RelV v u → ∃ as, Reads s.heap u d as ∧ sysModules ∉ as
  | .none, _, _, _, h, r => by
    cases h
    cases r
    exact ⟨_, Reads.none, by simp⟩
  | .bool b, _, _, _, h, r => by
    cases h
    cases r
    exact ⟨_, Reads.bool b, by simp⟩
  | .int i, _, _, _, h, r => by
    cases h
    obtain ⟨t, rfl⟩ := r
    exact ⟨_, Reads.int i t, by simp⟩
  | .str x, _, _, _, h, r => by
    cases h
    obtain ⟨t, rfl⟩ := r
    exact ⟨_, Reads.str x t, by simp⟩
  | .list ds, _, _, f, h, r => by
    cases h with
    | lst h1 h2 =>
      cases r
      have h3 := same_l e h1
      obtain ⟨its, rv, ⟨o, n, ho, hc, _, hd⟩, _⟩ := I.list (.inl h3)
      obtain ⟨as, hr, hn⟩ := RvL.reads I e hs ds _ its (by simpa only [potFree] using f) h2 rv
      exact ⟨_, Reads.list ho hc hd hr, by simp [hn, Ne.symm (rd_ne h3 hs)]⟩
  | .tuple ds, _, _, f, h, r => by
    cases h with
    | tup h1 h2 =>
      cases r
      obtain ⟨its, rv, ⟨o, ho, hc, n, hd⟩, _⟩ := I.tuple (same_t e h1)
      obtain ⟨as, hr, hn⟩ := RvL.reads I e hs ds _ its (by simpa only [potFree] using f) h2 rv
      exact ⟨_, Reads.tuple ho hc hd hr, hn⟩
  | .dict es, _, _, f, h, r => by
    cases h with
    | pot q => simp [potFree, potFreeK] at f
    | dct h1 h2 =>
      cases r
      have h3 := same_k e h1
      obtain ⟨_, _, vs, kv, o, ents, ep, ho, hx, hd, _, hpr, _⟩ := dk_rd I.hok h3
      obtain ⟨as, q1, q2, q3⟩ := key_reads (hp := s.heap) hpr kv
      obtain ⟨bs, q4, q5⟩ := RvK.reads I e hs es _ _ (by simpa only [potFree] using f) h2 q3
      have hk := rvk_keys h2
      refine ⟨_, Reads.dict ho hx.1 hd (by rw [hk]; exact q1) q4, ?_⟩
      simp [q2, q5, Ne.symm (rd_ne h3 hs)]
theorem RvL.reads (I : Inv X pins σ H s) (e : Same G H) (hs : H sysModules = none) : ∀ (ds : List PyData) (vs : List V) (us : List Value), potFreeL ds = true → RvL X.K pp G vs ds → Vals vs us → ∃ as, ReadsAll s.heap us ds as ∧ sysModules ∉ as
  | [], _, _, _, h, r => by
    cases h
    cases r
    exact ⟨_, ReadsAll.nil, by simp⟩
  | d :: ds, _, _, f, h, r => by
    have f' : potFree d = true ∧ potFreeL ds = true := by simpa only [potFreeL, Bool.and_eq_true] using f
    cases h with
    | cons h1 h2 =>
      cases r with
      | cons r1 r2 =>
        obtain ⟨as, q1, n1⟩ := Rv.reads I e hs d _ _ f'.1 h1 r1
        obtain ⟨bs, q2, n2⟩ := RvL.reads I e hs ds _ _ f'.2 h2 r2
        exact ⟨_, ReadsAll.cons q1 q2, by simp [n1, n2]⟩
theorem RvK.reads (I : Inv X pins σ H s) (e : Same G H) (hs : H sysModules = none) : ∀ (es : List (PyData × PyData)) (kvs : List (Key × V)) (us : List Value), potFreeK es = true → RvK X.K pp G kvs es → Vals (kvs.map (·.2)) us → ∃ as, ReadsAll s.heap us (es.map (·.2)) as ∧ sysModules ∉ as
  | [], _, _, _, h, r => by
    cases h
    cases r
    exact ⟨_, ReadsAll.nil, by simp⟩
  | (kd, d) :: es, _, _, f, h, r => by
    cases h with
    | @cons k v kvs _ _ h1 h2 =>
      have f' : potFree d = true ∧ potFreeK es = true := by
        cases k <;> simpa only [keyD, potFreeK, Bool.and_eq_true] using f
      cases r with
      | cons r1 r2 =>
        obtain ⟨as, q1, n1⟩ := Rv.reads I e hs d _ _ f'.1 h1 r1
        obtain ⟨bs, q2, n2⟩ := RvK.reads I e hs es _ _ f'.2 h2 r2
        exact ⟨_, ReadsAll.cons q1 q2, by simp [n1, n2]⟩
end
end
section
variable {X : Cx}
def isBox : PyData → Bool
  | .list _ => true
  | .tuple _ => true
  | .dict _ => true
  | _ => false
def reprOk (d : PyData) : Bool := isBox d && potFree d && d.showable && decide (d.depth ≤ 100) && decide (d.shown.length ≤ 16777216)
def reprD (d : PyData) : Option PyData := if reprOk d then some (.str d.shown) else none
theorem cd_repr {k : Nat} (hr : Rm k X.A) (hsys : ∃ o, X.base.get? sysModules = some o) : CallR X (.builtin "repr") (rDL X.K (one reprD)) := by
  intro pins s σ H vs us Q I rs ⟨pp, ps, G, xs, d, c, r, e, kk⟩
  obtain ⟨x, ex, e1⟩ := one_inv e
  subst ex
  clear e
  obtain ⟨v, rfl, r1⟩ := rvl_one r
  obtain ⟨hk, rfl⟩ := ite_inv e1
  unfold reprOk at hk
  rw [Bool.and_eq_true, Bool.and_eq_true, Bool.and_eq_true, Bool.and_eq_true] at hk
  obtain ⟨⟨⟨⟨k1, k2⟩, k3⟩, k4⟩, k5⟩ := hk
  obtain ⟨o, ho⟩ := hsys
  have hs : H sysModules = none := (I.bs _ _ ho).2
  cases rs with
  | cons u1 u2 =>
    cases u2
    obtain ⟨as, hrd, hns⟩ := Rv.reads I c.ex hs x v _ k2 r1 u1
    have hv : ∃ a, v = .ref a := by
      cases x with
      | list l => obtain ⟨a, _, z, _⟩ := rv_lst r1; exact ⟨a, z⟩
      | tuple l => obtain ⟨a, _, z, _⟩ := rv_tup r1; exact ⟨a, z⟩
      | dict l => cases r1 with
        | pot q => exact ⟨_, rfl⟩
        | dct _ _ => exact ⟨_, rfl⟩
      | _ => cases k1
    obtain ⟨a, rfl⟩ := hv
    cases u1
    have hd : x.depth ≤ 100 := of_decide_eq_true k4
    have hu := hr.un
    have hz : x.shown.length ≤ sizeLine := by
      rw [sizeLine_eq]
      exact of_decide_eq_true k5
    refine repr_of_reads' hrd k3 (fun _ => hns) hr.gd (by omega) (fun _ _ z => z) (fun h' t tk hkp => ?_) hz
    exact ⟨.str x.shown, H, I.kept hkp, ⟨t, rfl⟩, kk _ G H (Go.refl c) (.str _)⟩
end
end DL

set_option Elab.async false
set_option linter.all false
set_option maxRecDepth 100000
/-! D-layer, part q: chained comparisons, constants of the module, texts, targets that are tuples, {} , calls with keywords. -/
namespace DL
open PySem L2
variable [TBL]
section
variable {X : Cx}
/-! ### a op b op' c -/
def bChain (o o' : PyData → PyData → Option PyData) (ga gb gc : EG) : BG := fun S ps => bindP (ga S ps) fun x p => bindP (gb S p) fun y p1 => match o x y with
  | some (.bool true) => bindP (gc S p1) fun z p2 => match o' y z with
    | some (.bool b) => some (b, p2)
    | _ => none
  | some (.bool false) => some (false, p1)
  | _ => none
theorem pdt_chain {a b c : Expr} {op op' : CmpOp} {ga gb gc : EG} {pos : Pos} {o o' : PyData → PyData → Option PyData} (ho : OpD X (compareOp op) o) (ho' : OpD X (compareOp op') o') (ha : PD X a ga) (hb : PD X b gb) (hc : PD X c gc)
    (hm : lastMarks [op, op'] [b, c] = false := by with_unfolding_all rfl) : PDT X (.Compare a [op, op'] [b, c] pos) (bChain o o' ga gb gc) :=
  pt_imp (pt_chain ho ho' ha hb hc hm) fun σ H Q ⟨pp, ps, G, S, d, ps', c, s, e, k⟩ => by
    obtain ⟨x, p1, e1, e⟩ := bindP_inv e
    obtain ⟨y, p2, e2, e⟩ := bindP_inv e
    split at e
    · next e3 =>
      obtain ⟨z, p3, e4, e⟩ := bindP_inv e
      split at e
      · next b e5 =>
        cases e
        refine ⟨pp, ps, G, S, x, p1, c, s, e1, fun v G1 H1 g1 r1 => ⟨pp, p1, G1, S, y, p2, g1.cf, s.go g1, e2, fun w G2 H2 g2 r2 => ⟨pp, p2, G2, x, y, _, g2.cf, Rv.mono g2.gg _ _ r1, r2, e3, fun t G3 H3 g3 r3 => ⟨true, rv_bl r3, iteT ?_⟩⟩⟩⟩
        have s3 := ((s.go g1).go g2).go g3
        exact ⟨pp, p2, G3, S, z, _, g3.cf, s3, e4, fun u G4 H4 g4 r4 => ⟨pp, _, G4, y, z, _, g4.cf, Rv.mono g4.gg _ _ (Rv.mono g3.gg _ _ r2), r4, e5, fun q G5 H5 g5 r5 => ⟨_, rv_bl r5, k G5 H5 ((((g1.trans g2).trans g3).trans g4).trans g5)⟩⟩⟩
      · cases e
    · next e3 =>
      cases e
      exact ⟨pp, ps, G, S, x, p1, c, s, e1, fun v G1 H1 g1 r1 => ⟨pp, p1, G1, S, y, _, g1.cf, s.go g1, e2, fun w G2 H2 g2 r2 => ⟨pp, _, G2, x, y, _, g2.cf, Rv.mono g2.gg _ _ r1, r2, e3, fun t G3 H3 g3 r3 => ⟨false, rv_bl r3, iteF ⟨false, rfl, k G3 H3 ((g1.trans g2).trans g3)⟩⟩⟩⟩⟩
    · cases e
/-! ### constants of the module -/
/-- the global x holds the datum d -/
def Cst (K : PySem.W.Frag) (mg : Str → Option Value) (x : Str) (d : PyData) : Prop := ∃ u v, mg x = some u ∧ RelV v u ∧ ∀ pp G, Rv K pp G v d
theorem pd_cst {x : Str} {d : PyData} {pos : Pos} (hg : Gl X x) (h : Cst X.K X.mg x d) (hd : (x == ("__debug__" : Str)) = false := by decide) : PD X (.Name x pos) (eC d) := by
  obtain ⟨u, v, h1, h2, h3⟩ := h
  exact pd_c (pe_glob hg h1 h2 hd) h3
theorem cst_str {K : PySem.W.Frag} {mg : Str → Option Value} {x z : Str} {t : Tok} (h : mg x = some (.str z t)) : Cst K mg x (.str z) := ⟨_, .str z, h, ⟨t, rfl⟩, fun _ _ => .str z⟩
theorem cst_int {K : PySem.W.Frag} {mg : Str → Option Value} {x : Str} {i : Int} {t : Tok} (h : mg x = some (.int i t)) : Cst K mg x (.int i) := ⟨_, .int i, h, ⟨t, rfl⟩, fun _ _ => .int i⟩
def strVals : List Value → Option (List Str)
  | [] => some []
  | .str z _ :: r => (strVals r).map (z :: ·)
  | _ :: _ => none
theorem strVals_ok {K : PySem.W.Frag} {pp : Option Addr} {G : Hp} : ∀ {us : List Value} {zs : List Str}, strVals us = some zs → Vals (zs.map V.str) us ∧ RvL K pp G (zs.map V.str) (zs.map PyData.str)
  | [], _, h => by
    cases h
    exact ⟨.nil, .nil⟩
  | .str z t :: r, _, h => by
    obtain ⟨zs, h1, rfl⟩ := map_inv (show (strVals r).map (z :: ·) = _ from h)
    obtain ⟨a, b⟩ := strVals_ok (K := K) (pp := pp) (G := G) h1
    exact ⟨.cons ⟨t, rfl⟩ a, .cons (.str z) b⟩
theorem cst_tup {K : PySem.W.Frag} {mg : Str → Option Value} {x : Str} {a : Addr} {o : Obj} {its : Array Value} {n : Nat} {zs : List Str} (h : mg x = some (.ref a)) (hk : K.lookup a = some o) (hc : o.cls = .type "tuple") (hd : o.data = .seq its n) (hz : its.size ≤ 16777216) (hs : strVals its.toList = some zs) : Cst K mg x (.tuple (zs.map .str)) :=
  ⟨_, .ref a, h, rfl, fun pp G => .tup (.inr ⟨o, its, n, hk, hc, hd, by rw [sizeLine_eq]; exact hz, (strVals_ok (pp := pp) (G := G) (K := K) hs).1⟩) (strVals_ok hs).2⟩
/-! ### texts -/
def inS (neg : Bool) : PyData → PyData → Option PyData
  | .str a, .str z => match a.cps.toList with
    | [c] => some (.bool (if neg then !decide (c ∈ z.cps.toList) else decide (c ∈ z.cps.toList)))
    | _ => none
  | _, _ => none
theorem sign_of {a : Str} {c : Nat} (h : a.cps.toList = [c]) : a = ⟨#[c]⟩ := by
  obtain ⟨cps⟩ := a
  have : cps = #[c] := by
    apply Array.toList_inj.mp
    exact h
  rw [this]
theorem opd_inS : OpD X (compareOp .In) (inS false) := by
  intro pins s σ H x y v u Q I rx ry ⟨pp, ps, G, dx, dy, d, c, r1, r2, e, k⟩
  unfold inS at e
  split at e
  · next a z =>
    split at e
    · next n hn =>
      cases e
      have := sign_of hn
      subst this
      cases r1
      cases r2
      exact op_in_sign pins s σ H _ _ v u Q I rx ry ⟨n, z, rfl, rfl, k _ G H (Go.refl c) (.bl _)⟩
    · cases e
  · cases e
def ltS : PyData → PyData → Option PyData
  | .str a, .str b => some (.bool (decide (a.cps.toList < b.cps.toList)))
  | _, _ => none
theorem opd_ltS : OpD X (compareOp .Lt) ltS := by
  intro pins s σ H x y v u Q I rx ry ⟨pp, ps, G, dx, dy, d, c, r1, r2, e, k⟩
  unfold ltS at e
  split at e
  · next a b =>
    cases e
    cases r1
    cases r2
    exact op_lt_str pins s σ H _ _ v u Q I rx ry ⟨a, b, rfl, rfl, k _ G H (Go.refl c) (.bl _)⟩
  · cases e
def chars (z : Str) : List PyData := z.cps.toList.map fun c => .str ⟨#[c]⟩
def iStrD (g : EG) : AG := fun S ps => bindP (g S ps) fun d p => match d with
  | .str z => some (chars z, p)
  | _ => none
theorem wk_str {K : PySem.W.Frag} {pp : Option Addr} {G : Hp} {z : Str} : Wk K pp G (Its z) (chars z) := by
  have hl : (chars z).length = z.cps.size := by simp [chars]
  refine Wk.flat (fun i H' g hi => ?_) (fun i H' g hi => ?_) (fun i H' x H'' d g hd hy => ?_)
  · rw [hl] at hi
    exact hi
  · rw [hl] at hi
    exact hi
  · obtain ⟨h1, c, h2, h3⟩ := hy
    refine ⟨h1, ?_⟩
    subst h3
    unfold chars at hd
    rw [List.getElem?_map, Array.getElem?_toList, h2] at hd
    cases hd
    exact .str _
theorem pdi_str {tg l : Expr} {g : EG} (h : PD X l g) : PDI X tg l (iStrD g) := pi_imp (pi_str h) fun σ H R ⟨pp, ps, G, S, ds, ps', c, s, e, k⟩ => by
  obtain ⟨d, p1, e1, e⟩ := bindP_inv e
  split at e
  · next z =>
    cases e
    exact ⟨pp, ps, G, S, _, _, c, s, e1, fun v G' H' g' r' => ⟨z, rv_str r', k _ G' H' g' wk_str⟩⟩
  · cases e
def splitD : PyData → PyData → Option PyData
  | .str a, .str b => if !(b.length == 0) && decide (a.length + 2 ≤ 16777216) then some (.list ((Txt.split a b).map .str)) else none
  | _, _ => none
theorem splitD_inv {x y d : PyData} (h : splitD x y = some d) : ∃ a b, x = .str a ∧ y = .str b ∧ (b.length == 0) = false ∧ a.length + 2 ≤ 16777216 ∧ d = .list ((Txt.split a b).map .str) := by
  unfold splitD at h
  split at h
  · next a b =>
    obtain ⟨h1, rfl⟩ := ite_inv h
    rw [Bool.and_eq_true] at h1
    exact ⟨a, b, rfl, rfl, by simpa using h1.1, of_decide_eq_true h1.2, rfl⟩
  · cases h
theorem rvl_strs {K : PySem.W.Frag} {pp : Option Addr} {G : Hp} : ∀ zs : List Str, RvL K pp G (zs.map V.str) (zs.map PyData.str)
  | [] => .nil
  | z :: zs => .cons (.str z) (rvl_strs zs)
theorem pd_split {o e : Expr} {go ge : EG} {apos pos : Pos} (ho : PD X o go) (he : PD X e ge) (hs : starEach [e] X.env = [(false, eval e X.env)] := by rfl) (hbase : attributeBase o "split" X.env (eval o X.env) = eval o X.env := by rfl) (hline : (apos.endLine == pos.line) = true := by rfl) :
    PD X (.Call (.Attribute o "split" apos) [e] [] pos) (eOp splitD go ge) := pe_imp (pe_split ho he hs hbase hline) fun σ H Q ⟨pp, ps, G, S, d, ps', c, s, e, k⟩ => by
  obtain ⟨x, p1, e1, e⟩ := bindP_inv e
  obtain ⟨y, p2, e2, e⟩ := bindP_inv e
  obtain ⟨d', e3, e⟩ := map_inv e
  cases e
  obtain ⟨a, b, rfl, rfl, h1, h2, rfl⟩ := splitD_inv e3
  refine ⟨pp, ps, G, S, _, p1, c, s, e1, fun v G1 H1 g1 r1 => ⟨⟨a, rv_str r1⟩, pp, p1, G1, S, _, _, g1.cf, s.go g1, e2, fun w G2 H2 g2 r2 => ⟨a, b, rv_str r1, by rw [rv_str r2], h1, by rw [sizeLine_eq]; exact h2, fun p hp => ?_⟩⟩⟩
  have gl : Go pp _ [] G2 H2 (upd G2 p (.lst ((Txt.split a b).map V.str))) (upd H2 p (.lst ((Txt.split a b).map V.str))) := Go.lay g2.cf hp
  exact k _ _ _ ((g1.trans g2).trans gl) (.lst (.inl upd_same) (rvl_strs _))
/-! ### -e, {} -/
def negI : PyData → Option PyData
  | .int i => some (.int (-i))
  | _ => none
theorem pd_neg {a : Expr} {g : EG} {pos : Pos} (h : PD X a g) : PD X (.UnaryOp .USub a pos) (eUn negI g) := pe_imp (pe_un un_neg h) fun σ H Q ⟨pp, ps, G, S, d, ps', c, s, e, k⟩ => by
  obtain ⟨x, p1, e1, e⟩ := bindP_inv e
  obtain ⟨d', e2, e⟩ := map_inv e
  cases e
  unfold negI at e2
  split at e2
  · next i =>
    cases e2
    exact ⟨pp, ps, G, S, _, _, c, s, e1, fun v G1 H1 g1 r1 => ⟨i, rv_int r1, k _ G1 H1 g1 (.int _)⟩⟩
  · cases e2
theorem nt_dK {kvs : List (Key × V)} : NT (.dK kvs) := fun _ z => by cases z
theorem pd_emp {pos : Pos} : PD X (.Dict [] [] pos) (eC (.dict [])) := pe_imp pe_dnewK fun σ H Q ⟨pp, ps, G, S, d, ps', c, s, e, k⟩ => by
  cases e
  intro p hp
  have gl : Go pp ps [] G H (upd G p (.dK [])) (upd H p (.dK [])) := Go.lay c hp nt_dK
  exact k _ _ _ gl (.dct (.inl upd_same) .nil)
/-! ### calls without arguments, with keywords -/
theorem pd_call0 {k : Nat} {f : Addr} {fd : FuncData} {fn : List PyData → Pt → Option (PyData × Pt)} {x : Str} {p pos : Pos} (F : FnD X.prog X.w X.K X.mg X.base k f fd [] fn) (hr : Rm k X.A) (hg : Gl X x) (hm : X.mg x = some (.ref f)) (hk : PySem.W.keepIn X.K (.ref f) = true) (hb : Binds X.K fd [] []) (hdb : (x == ("__debug__" : Str)) = false := by decide) :
    PD X (.Call (.Name x p) [] [] pos) (eCall fn aNil) := pe_imp (pe_callG0 F hr hg hm hk hb hdb) fun σ H Q ⟨pp, ps, G, S, d, ps', c, s, e, k⟩ => by
  obtain ⟨ds, p1, e1, e⟩ := bindP_inv e
  cases e1
  exact ⟨pp, _, G, [], d, ps', rfl, c, .nil, e, fun v G2 H2 g2 r2 => k v G2 H2 g2 r2⟩
abbrev PDK (X : Cx) (kws : List Keyword) (gs : AG) : Prop := PK X kws (TDA X.K gs)
theorem pdk_nil : PDK X [] aNil := ⟨fun pos pins s σ H Q I ⟨pp, ps, G, S, d, ps', c, sl, e, k⟩ => by
  cases e
  exact pk_nil.run pos pins s σ H Q I (k [] G H (Go.refl c) .nil)⟩
theorem pdk_cons {nm : Option Str} {e : Expr} {kpos : Pos} {kws : List Keyword} {g : EG} {gs : AG} (h : PD X e g) (hs : PDK X kws gs) : PDK X (⟨nm, e, kpos⟩ :: kws) (aCons g gs) := ⟨fun pos pins s σ H Q I ⟨pp, ps, G, S, d, ps', c, sl, e, k⟩ => by
  obtain ⟨x, p1, e1, e⟩ := bindP_inv e
  obtain ⟨xs, p2, e2, e⟩ := bindP_inv e
  cases e
  exact (pk_cons (nm := nm) (kpos := kpos) h hs).run pos pins s σ H Q I ⟨pp, ps, G, S, x, p1, c, sl, e1, fun v G1 H1 g1 r1 => ⟨pp, p1, G1, S, xs, _, g1.cf, sl.go g1, e2, fun vs G2 H2 g2 r2 => k _ G2 H2 (g1.trans g2) (.cons (Rv.mono g2.gg _ _ r1) r2)⟩⟩⟩
def eCallK (f : List PyData → Pt → Option (PyData × Pt)) (is : List Nat) (gs : AG) : EG := fun S ps => bindP (gs S ps) fun ds p => f (permL is ds) p
theorem rvl_perm {K : PySem.W.Frag} {pp : Option Addr} {G : Hp} {vs : List V} {ds : List PyData} (r : RvL K pp G vs ds) : ∀ is : List Nat, RvL K pp G (permL is vs) (permL is ds)
  | [] => .nil
  | i :: is => by
    cases q : ds[i]? with
    | none =>
      have q2 : vs[i]? = none := by
        rw [List.getElem?_eq_none_iff] at q ⊢
        rw [r.length]
        exact q
      have h1 : permL (i :: is) vs = permL is vs := by simp [permL, q2]
      have h2 : permL (i :: is) ds = permL is ds := by simp [permL, q]
      rw [h1, h2]
      exact rvl_perm r is
    | some d =>
      obtain ⟨v, q2, h⟩ := r.get q
      have h1 : permL (i :: is) vs = v :: permL is vs := by simp [permL, q2]
      have h2 : permL (i :: is) ds = d :: permL is ds := by simp [permL, q]
      rw [h1, h2]
      exact .cons h (rvl_perm r is)
theorem pd_callK {k : Nat} {f : Addr} {fd : FuncData} {qs ks : List Str} {is : List Nat} {fn : List PyData → Pt → Option (PyData × Pt)} {x : Str} {p pos : Pos} {kws : List Keyword} {gs : AG} (F : FnD X.prog X.w X.K X.mg X.base k f fd qs fn) (hr : Rm k X.A) (hg : Gl X x) (hm : X.mg x = some (.ref f)) (hk : PySem.W.keepIn X.K (.ref f) = true)
    (hb : ∀ (s : Shared) (ws : List Value), ws.length = ks.length → BindsTo s fd ⟨[], ks.zip ws⟩ (qs.zip (permL is ws))) (hkw : PDK X kws gs) (hl : ∀ S ps ds p, gs S ps = some (ds, p) → ds.length = ks.length) (hp : ∀ ds : List PyData, ds.length = ks.length → (permL is ds).length = qs.length)
    (hall : (backToKw pos (keywordEach kws X.env)).all (·.1.isSome) = true := by rfl) (hks : (backToKw pos (keywordEach kws X.env)).filterMap (·.1) = ks := by rfl) (hdb : (x == ("__debug__" : Str)) = false := by decide) (hpl : ((backTo pos (starEach [] X.env)).any (·.1) || (backToKw pos (keywordEach kws X.env)).any (·.1.isNone)) = false := by rfl) :
    PD X (.Call (.Name x p) [] kws pos) (eCallK fn is gs) :=
  pe_imp (pe_callGK F hr hg hm hk hb hkw (fun σ H Q ⟨pp, ps, G, S, ds, ps', c, s, e, k⟩ => ⟨pp, ps, G, S, ds, ps', c, s, e, fun vs G' H' g' r' => ⟨by rw [r'.length]; exact hl _ _ _ _ e, k vs G' H' g' r'⟩⟩) hall hks hdb hpl) fun σ H Q ⟨pp, ps, G, S, d, ps', c, s, e, k⟩ => by
    obtain ⟨ds, p1, e1, e⟩ := bindP_inv e
    refine ⟨pp, ps, G, S, ds, p1, c, s, e1, fun vs G1 H1 g1 r1 => ?_⟩
    exact ⟨pp, p1, G1, permL is ds, d, ps', hp ds (hl _ _ _ _ e1), g1.cf, rvl_perm r1 is, e, fun v G2 H2 g2 r2 => k v G2 H2 (g1.trans g2) r2⟩
/-! ### targets that are tuples -/
abbrev TgtL := List PyData → Sd → Option Sd
def tgsD (K : PySem.W.Frag) (is : List Nat) (t : TgtL) : TGs := fun vs σ H Q => ∃ (pp : Option Addr) (ps : Pt) (G : Hp) (S : Sd) (ds : List PyData) (S' : Sd), Cf pp ps G H ∧ Sl K pp G H S σ ∧ RvL K pp G vs ds ∧ t ds S = some S' ∧
  ∀ σ', Sl K pp G H S' σ' → (∀ b, Owned S' σ' b → Owned S σ b) → σ'.length = σ.length → (∀ j, j ∉ is → σ'[j]? = σ[j]?) → Q σ' H
abbrev PDGs (X : Cx) (es : List Expr) (is : List Nat) (t : TgtL) : Prop := PGs X es (tgsD X.K is t)
def tlNil : TgtL := fun ds S => match ds with
  | [] => some S
  | _ => none
def tlCons (t : Tgt) (ts : TgtL) : TgtL := fun ds S => match ds with
  | d :: r => match t d S with
    | some S1 => ts r S1
    | none => none
  | [] => none
def tTup (n : Nat) (ts : TgtL) : Tgt := fun d S => match d with
  | .tuple ds => if ds.length = n then ts ds S else none
  | _ => none
theorem pgs_imp {es : List Expr} {t t' : TGs} (h : PGs X es t) (i : ∀ v σ H Q, t' v σ H Q → t v σ H Q) : PGs X es t' := ⟨fun pins s σ H vs us Q I r q => h.run pins s σ H vs us Q I r (i vs σ H Q q)⟩
theorem pdgs_nil : PDGs X [] [] tlNil := pgs_imp pgs_nil fun vs σ H Q ⟨pp, ps, G, S, ds, S', c, s, r, e, k⟩ => by
  unfold tlNil at e
  split at e
  · cases e
    cases r
    exact ⟨rfl, k σ s (fun _ z => z) rfl fun _ _ => rfl⟩
  · cases e
theorem pdgs_cons {e : Expr} {es : List Expr} {is js : List Nat} {t : Tgt} {ts : TgtL} (h1 : PDG X e is t) (h2 : PDGs X es js ts) (hs : (assignEach (e :: es) X.env).map (·.2) = assign e X.env :: (assignEach es X.env).map (·.2) := by rfl) : PDGs X (e :: es) (is ++ js) (tlCons t ts) :=
  pgs_imp (pgs_cons h1 h2 hs) fun vs σ H Q ⟨pp, ps, G, S, ds, S', c, s, r, e, k⟩ => by
    unfold tlCons at e
    split at e
    · next d rest =>
      split at e
      · next S1 e1 =>
        cases r with
        | cons r1 r2 =>
          refine ⟨_, _, rfl, pp, ps, G, S, d, S1, c, s, r1, e1, fun σ1 s1 o1 l1 k1 => ⟨pp, ps, G, S1, rest, S', c, s1, r2, e, fun σ2 s2 o2 l2 k2 => k σ2 s2 (fun b z => o1 b (o2 b z)) (l2.trans l1) fun j hj => ?_⟩⟩
          rw [k2 j (fun z => hj (List.mem_append_right _ z)), k1 j (fun z => hj (List.mem_append_left _ z))]
      · cases e
    · cases e
theorem pdg_tup {es : List Expr} {k : Nat} {pos : Pos} {n : Nat} {is : List Nat} {ts : TgtL} (hc : X.calm = true) (h : PDGs X es is ts) (hn : (assignEach es X.env).length = n := by rfl) (hst : (assignEach es X.env).findIdx? (·.1) = none := by rfl) : PDG X (.Tuple es k pos) is (tTup n ts) :=
  pg_imp (pg_tup hc h hn hst) fun v σ H Q ⟨pp, ps, G, S, d, S', c, s, r, e, k⟩ => by
    unfold tTup at e
    split at e
    · next ds =>
      split at e
      · next hl =>
        obtain ⟨a, xs, rfl, hx, ha⟩ := rv_tup r
        exact ⟨a, xs, rfl, cf_t c hx, by rw [ha.length]; exact hl, pp, ps, G, S, ds, S', c, s, ha, e, k⟩
      · cases e
    · cases e
/-- t = e -/
def sAsg (t : Tgt) (g : EG) : SG := fun S ps => bindP (g S ps) fun d p => match t d S with
  | some S' => some (.nx S', p)
  | none => none
theorem pds_asg {tg e : Expr} {is : List Nat} {t : Tgt} {g : EG} {pos : Pos} (ht : PDG X tg is t) (h : PD X e g)
    (hs : swapsWithSole [tg] e pos.line X.env = pure false := by rfl) (hw : swappedStores [tg] e X.env = pure none := by rfl) (h1 : (assignEach [tg] X.env).map (·.2) = [assign tg X.env] := by rfl) : PDS X (.Assign [tg] e pos) (sAsg t g) :=
  ps_imp (ps_asg h ht hs hw h1) fun D σ H ⟨pp, ps, G, S, r, ps', c, s, e, k⟩ => by
    obtain ⟨d, p1, e1, e⟩ := bindP_inv e
    split at e
    · next S' e2 =>
      cases e
      exact ⟨pp, ps, G, S, d, _, c, s, e1, fun v G' H' g' r' => ⟨pp, _, G', S, d, S', g'.cf, s.go g', r', e2, fun σ' s' o' l' _ => k σ' G' H' (g'.toS o') s'⟩⟩
    · cases e
end
end DL

set_option Elab.async false
set_option linter.all false
set_option maxRecDepth 100000
/-! D-layer, part r: zip, also with strict=False. -/
namespace DL
open PySem L2
theorem tc_zip (a b v : Value) : checkTypeCall "zip" ⟨[a, b], [(Str.ofString "strict", v)]⟩ = pure () := by kernel_rfl
theorem nc_zip (a b v : Value) : checkBuiltinCall "zip.__new__" ⟨[.type "zip", a, b], [(Str.ofString "strict", v)]⟩ = pure () := by kernel_rfl
theorem ai_zip (o a b v : Value) : argsOk "object.__init__" ⟨[o, a, b], [(Str.ofString "strict", v)]⟩ := by unfold argsOk; kernel_rfl
set_option maxHeartbeats 1000000 in
theorem meets_zipK (l1 l2 : Addr) (xs ys : Array Value) :
    Meets (Builtin.«zip.__new__» ⟨[.type "zip", .ref l1, .ref l2], [(Str.ofString "strict", .bool false)]⟩) (fun _ R s => s.heap.IsList l1 xs ∧ s.heap.IsList l2 ys ∧ R (.ok (.ret (.ref (zipH4 s.heap l1 l2).objs.size))) { s with heap := zipH5 s.heap l1 l2 }) :=
  .of_wp fun prog w A R s h => by
    obtain ⟨hp, gn, dd, tk, os⟩ := s
    obtain ⟨h1, h2, h⟩ := h
    have hsub := sub_zip
    have e1 : (Str.ofString "strict" != ("strict" : Str)) = false := by decide +kernel
    have hA : Heap.IsList (Shared.heap ⟨hp, gn, dd, tk, os⟩) l1 xs := h1
    have hB : Heap.IsList (Shared.heap ⟨hp.push { cls := .type "list_iterator", data := .fields #[.ref l1, .int 0 0] }, gn, dd, tk, os⟩) l2 ys := Heap.IsList.push h2 _
    wp_walk using wpAny_pyIter_list hA, wpAny_pyIter_list hB
    exact ⟨_, rfl, h⟩
section
variable {prog : Program} {w : World} {A : Around} {E : Value → Shared → Prop} {s : Shared}
theorem call_zipK {l1 l2 : Addr} {xs ys : Array Value} {Q : Value → Shared → Prop} (hl1 : s.heap.IsList l1 xs) (hl2 : s.heap.IsList l2 ys)
    (h : ∀ h', IsZip h' (s.heap.objs.size + 4) (s.heap.objs.size + 2) (s.heap.objs.size + 3) .none → IsPair h' (s.heap.objs.size + 2) (.ref s.heap.objs.size) (.ref (s.heap.objs.size + 1)) → IsPair h' (s.heap.objs.size + 3) .none .none → h'.IsListIter s.heap.objs.size l1 0 → h'.IsListIter (s.heap.objs.size + 1) l2 0 →
      (∀ c o, s.heap.get? c = some o → h'.get? c = some o) → Q (.ref (s.heap.objs.size + 4)) { s with heap := h' }) :
    wpAny (model prog w) A (call (.type "zip") [.ref l1, .ref l2] [(Str.ofString "strict", .bool false)]) Q E s := by
  refine callType_newKw F.called_zip (by decide) (tc_zip _ _ _) (nc_zip _ _ _) (fun obj => ai_zip obj _ _ _) F.entry_zip_new (meets_zipK l1 l2 xs ys) ⟨hl1, hl2, ?_⟩
  have n1 : (zipH1 s.heap l1).objs.size = s.heap.objs.size + 1 := Heap.size_push ..
  have n2 : (zipH2 s.heap l1 l2).objs.size = s.heap.objs.size + 2 := by rw [Heap.size_push, n1]
  have n3 : (zipH3 s.heap l1 l2).objs.size = s.heap.objs.size + 3 := by rw [Heap.size_push, n2]
  have n4 : (zipH4 s.heap l1 l2).objs.size = s.heap.objs.size + 4 := by rw [Heap.size_push, n3]
  have p5 : (zipH5 s.heap l1 l2).get? (zipH4 s.heap l1 l2).objs.size = some _ := Heap.get?_push_size _ rfl
  have p4 : (zipH5 s.heap l1 l2).get? (zipH3 s.heap l1 l2).objs.size = some _ := Heap.get?_push_of_some _ (Heap.get?_push_size _ rfl)
  have p3 : (zipH5 s.heap l1 l2).get? (zipH2 s.heap l1 l2).objs.size = some _ := Heap.get?_push_of_some _ (Heap.get?_push_of_some _ (Heap.get?_push_size _ rfl))
  have p2 : (zipH5 s.heap l1 l2).get? (zipH1 s.heap l1).objs.size = some _ := Heap.get?_push_of_some _ (Heap.get?_push_of_some _ (Heap.get?_push_of_some _ (Heap.get?_push_size _ rfl)))
  have p1 : (zipH5 s.heap l1 l2).get? s.heap.objs.size = some _ := Heap.get?_push_of_some _ (Heap.get?_push_of_some _ (Heap.get?_push_of_some _ (Heap.get?_push_of_some _ (Heap.get?_push_size _ rfl))))
  show _ ∧ _
  rw [n2, n3, n4] at p5
  rw [n1, n2] at p3
  rw [n3] at p4
  rw [n1] at p2
  rw [n4]
  exact ⟨⟨_, p5, rfl⟩, h _ p5 p3 p4 ⟨_, p1, rfl, rfl⟩ ⟨_, p2, rfl, rfl⟩ fun c o z => Heap.get?_push_of_some _ (Heap.get?_push_of_some _ (Heap.get?_push_of_some _ (Heap.get?_push_of_some _ (Heap.get?_push_of_some _ z))))⟩
end
/-- a built-in class called with keywords -/
theorem with_tyK {M : Model} {A : Around} {E : Value → Shared → Prop} {s : Shared} {env : Env} {pos : Pos} {T : String} {e : Expr} {rest : List Expr} {kws : List Keyword} {Q : Value → Shared → Prop} (he : backTo pos (starEach (e :: rest) env) = (false, eval e env) :: backTo pos (starEach rest env))
    (hp : (backTo pos (starEach (e :: rest) env)).any (·.1) = false) (hall : (backToKw pos (keywordEach kws env)).all (·.1.isSome) = true) (hkw : (backToKw pos (keywordEach kws env)).any (·.1.isNone) = false)
    (h : wpAny M A (spliced (backTo pos (starEach (e :: rest) env))) (fun vs s1 => wpAny M A (evalAll ((backToKw pos (keywordEach kws env)).map (·.2))) (fun zs s2 => wpAny M A (call (.type T) vs (((backToKw pos (keywordEach kws env)).filterMap (·.1)).zip zs)) Q E s2) E s1) E s) :
    wpAny M A (callWith pos (.type T) [] (backTo pos (starEach (e :: rest) env)) (backToKw pos (keywordEach kws env))) Q E s := by
  unfold callWith
  apply wpAny_bind
  apply wpAny_holding
  have h2 : wpAny M A (evalArgs (.type T) true (backTo pos (starEach (e :: rest) env)) (backToKw pos (keywordEach kws env))) (fun a s1 => wpAny M A (call (.type T) a.pos a.kw) Q E s1) E s := by
    rw [he] at h ⊢
    exact PyProof.Rows.evalArgs_kwB hall h
  refine wpAny_mono h2 (fun a s1 h1 => wpAny_bind (wpAny_standAt ?_)) (fun _ _ z => z)
  simp only [hp, hkw, Bool.or_false]
  refine wpAny_bind (wpAny_pure ?_)
  exact wpAny_bind (wpAny_mono h1 (fun r s2 hr => wpAny_bind (wpAny_holding (wpAny_point (wpAny_pure hr)))) fun _ _ z => z)
section
variable {X : Cx}
theorem pi_zipK {e e2 : Expr} {ta : TA} {p pos tpos kp cp : Pos} {elts : List Expr} {kk j : Nat} (hg : Gl X "zip") (hm : X.mg "zip" = none) (ha : PA X [e, e2] ta)
    (hs : backTo pos (starEach [e, e2] X.env) = (false, eval e X.env) :: backTo pos (starEach [e2] X.env) := by rfl) (hpl : (backTo pos (starEach [e, e2] X.env)).any (·.1) = false := by rfl) :
    PI X (.Tuple elts kk tpos) (.Call (.Name "zip" p) [e, e2] [⟨some (Str.ofString "strict"), .Constant (.bool false) j cp, kp⟩] pos) (iZip X.K ta) := by
  refine ⟨fun pins s σ H R I h => ?_⟩
  apply wpAny_Call_Name_kw
  apply ld_blt I hg hm PyProof.Rows.boot_zip
  refine with_tyK hs hpl rfl rfl (thn (ha.run pos pins s σ H _ I h) fun us s1 ⟨vs, H1, I1, r1, q1⟩ => ?_)
  refine thn ((pk_cons (nm := some (Str.ofString "strict")) (kpos := kp) (pe_bl (b := false) (j := j) (pos := cp)) pk_nil).run pos pins s1 σ H1 (fun zs H2 => zs = [.bl false] ∧ H2 = H1) I1 ⟨rfl, rfl⟩) fun ws s2 ⟨zs, H2, I2, rz, ez, eh⟩ => ?_
  subst ez eh
  obtain ⟨a, b, xs, ys, ex, hqx, hqy, q⟩ := q1
  subst ex
  cases rz with
  | cons z0 z1 =>
    cases z1
    cases z0
    cases r1 with
    | cons r rr =>
      cases rr with
      | cons r' rr =>
        cases rr
        cases r
        cases r'
        obtain ⟨its, rv, pa, _⟩ := I2.list hqx
        obtain ⟨its2, rv2, pb, _⟩ := I2.list hqy
        have la : a < s2.heap.objs.size := pa.lt
        have lb : b < s2.heap.objs.size := pb.lt
        refine call_zipK pa.isList pb.isList fun h' hz hTI hTO h1 h2 hk => wpAny_pyIter_zip hz ?_
        have I3 : Inv X pins σ H2 { s2 with heap := h' } := I2.kept (t' := s2.toks) hk
        refine ⟨s2.heap.objs.size + 4, [s2.heap.objs.size + 4, s2.heap.objs.size + 2, s2.heap.objs.size + 3, s2.heap.objs.size, s2.heap.objs.size + 1], _, _, H2, rfl, I3, turn_zip (PySem.W.ktu_apart s2.heap.objs.size a b la lb), ⟨hz, hTI, ⟨_, _, hTO⟩, h1, h2⟩, fun c hc => ?_, q⟩
        have hle : s2.heap.objs.size ≤ c := by
          have e' : c = s2.heap.objs.size + 4 ∨ c = s2.heap.objs.size + 2 ∨ c = s2.heap.objs.size + 3 ∨ c = s2.heap.objs.size ∨ c = s2.heap.objs.size + 1 := by simpa using hc
          rcases e' with z | z | z | z | z <;> subst z <;> first | exact Nat.le_refl _ | exact Nat.le_add_right _ _
        exact I2.fpOk hle (I2.hok.fresh hle)
end
section
variable [TBL] {X : Cx}
def zipD (ds es : List PyData) : List PyData := (ds.zip es).map fun p => .tuple [p.1, p.2]
def iZipD (gs : AG) : AG := fun S ps => match gs S ps with
  | some ([.list ds, .list es], p) => some (zipD ds es, p)
  | _ => none
theorem wk_zip {K : PySem.W.Frag} {pp : Option Addr} {G : Hp} {a b : Addr} {ds es : List PyData} (h1 : Rv K pp G (.ref a) (.list ds)) (h2 : Rv K pp G (.ref b) (.list es)) : Wk K pp G (Itz K a b) (zipD ds es) := by
  obtain ⟨a', xs, e1, hx, ha⟩ := rv_lst h1
  obtain ⟨b', ys, e2, hy, hb⟩ := rv_lst h2
  cases e1
  cases e2
  have hl : (zipD ds es).length = min ds.length es.length := by simp [zipD]
  refine ⟨fun i H' g hi => ?_, fun i H' g hi => ?_, fun i H' x H'' d G1 q g c hd hyl => ?_⟩
  · rw [hl] at hi
    obtain ⟨v, hv, _⟩ := ha.get (List.getElem?_eq_getElem (show i < ds.length by omega))
    obtain ⟨w, hw, _⟩ := hb.get (List.getElem?_eq_getElem (show i < es.length by omega))
    exact ⟨xs, ys, v, w, .inl (same_l g hx), .inl (same_l g hy), hv, hw⟩
  · rw [hl] at hi
    exact ⟨xs, ys, .inl (same_l g hx), .inl (same_l g hy), by rw [ha.length, hb.length]; omega⟩
  · obtain ⟨T, x1, y1, rfl, hT, rfl, k1, k2⟩ := hyl
    have hi : i < (zipD ds es).length := (List.getElem?_eq_some_iff.mp hd).1
    rw [hl] at hi
    have hd1 : ds[i]? = some ds[i] := List.getElem?_eq_getElem (by omega)
    have hd2 : es[i]? = some es[i] := List.getElem?_eq_getElem (by omega)
    obtain ⟨v, hv, rv⟩ := ha.get hd1
    obtain ⟨w, hw, rw'⟩ := hb.get hd2
    have z1 := k1 xs (.inl (same_l (g.trans c.ex) hx))
    have z2 := k2 ys (.inl (same_l (g.trans c.ex) hy))
    rw [hv] at z1
    rw [hw] at z2
    cases z1
    cases z2
    have ed : d = .tuple [ds[i], es[i]] := by
      unfold zipD at hd
      rw [List.getElem?_map, List.getElem?_zip_eq_some (z := (ds[i], es[i])) |>.mpr ⟨hd1, hd2⟩] at hd
      cases hd
      rfl
    subst ed
    have gl : Go pp q [] G1 H' (upd G1 T (.tup [x1, y1])) (upd H' T (.tup [x1, y1])) := Go.lay c hT
    exact ⟨_, gl, .tup (.inl (.inl upd_same)) (.cons (Rv.mono (g.trans gl.gg) _ _ rv) (.cons (Rv.mono (g.trans gl.gg) _ _ rw') .nil))⟩
theorem iZip_D {gs : AG} (σ : L2.St) (H : Hp) (R : It → Hp → Prop) (h : tiW X.K (iZipD gs) σ H R) : iZip X.K (TDA X.K gs) σ H R := by
  obtain ⟨pp, ps, G, S, ds, ps', c, s, e, k⟩ := h
  unfold iZipD at e
  split at e
  · next xs ys p1 e1 =>
    cases e
    refine ⟨pp, ps, G, S, _, _, c, s, e1, fun vs G' H' g' r' => ?_⟩
    obtain ⟨v, w, rfl, r1, r2⟩ := rvl_two r'
    obtain ⟨a, us, rfl, hx, _⟩ := rv_lst r1
    obtain ⟨b, ws, rfl, hy, _⟩ := rv_lst r2
    exact ⟨a, b, us, ws, rfl, cf_l g'.cf hx, cf_l g'.cf hy, k _ G' H' g' (wk_zip r1 r2)⟩
  · cases e
theorem pdi_zip {e e2 : Expr} {gs : AG} {p pos tpos : Pos} {elts : List Expr} {kk : Nat} (hg : Gl X "zip") (hm : X.mg "zip" = none) (ha : PDA X [e, e2] gs)
    (hs : starEach [e, e2] X.env = (false, eval e X.env) :: starEach [e2] X.env := by rfl) (hpl : (backTo pos (starEach [e2] X.env)).any (·.1) = false := by rfl) :
    PDI X (.Tuple elts kk tpos) (.Call (.Name "zip" p) [e, e2] [] pos) (iZipD gs) := pi_imp (pi_zip hg hm ha hs hpl) iZip_D
theorem pdi_zipK {e e2 : Expr} {gs : AG} {p pos tpos kp cp : Pos} {elts : List Expr} {kk j : Nat} (hg : Gl X "zip") (hm : X.mg "zip" = none) (ha : PDA X [e, e2] gs)
    (hs : backTo pos (starEach [e, e2] X.env) = (false, eval e X.env) :: backTo pos (starEach [e2] X.env) := by rfl) (hpl : (backTo pos (starEach [e, e2] X.env)).any (·.1) = false := by rfl) :
    PDI X (.Tuple elts kk tpos) (.Call (.Name "zip" p) [e, e2] [⟨some (Str.ofString "strict"), .Constant (.bool false) j cp, kp⟩] pos) (iZipD gs) := pi_imp (pi_zipK hg hm ha hs hpl) iZip_D
end
end DL

set_option Elab.async false
set_option linter.all false
set_option maxRecDepth 100000
/-! D-layer, part s: len(set(e)), e a list of texts. -/
namespace DL
open PySem L2 PyProof.Rows
/-- each once, as they come -/
def once (zs : List Str) : List Str := zs.foldl (fun acc z => if z ∈ acc then acc else acc ++ [z]) []
theorem once_snoc (zs : List Str) (z : Str) : once (zs ++ [z]) = if z ∈ once zs then once zs else once zs ++ [z] := by
  unfold once
  rw [List.foldl_append]
  rfl
theorem once_len (zs : List Str) : (once zs).length ≤ zs.length := by
  have key : ∀ (ys acc : List Str), (ys.foldl (fun acc z => if z ∈ acc then acc else acc ++ [z]) acc).length ≤ acc.length + ys.length := by
    intro ys
    induction ys with
    | nil => intro acc; simp
    | cons y r ih =>
      intro acc
      rw [List.foldl_cons]
      have := ih (if y ∈ acc then acc else acc ++ [y])
      split at this <;> simp at this ⊢ <;> rename_i h <;> simp [h] <;> omega
  have := key zs []
  simpa [once] using this
section
variable {prog : Program} {w : World} {A : Around} {R : Result → Shared → Prop} {J : Addr} {fp wr : List Addr} {GG : Array GenState → Array GenState → Prop} {n : Nat} {PP : Nat → Value → Prop} {St : Nat → Shared → Prop}
/-- the set that the first i texts make -/
abbrev Made (prog : Program) (w : World) (h : Heap) (T : Addr) (zs : List Str) (i : Nat) : Prop := h.SetOf (PySem.strKind prog w) T (fun k => decide (k ∈ once (zs.take i))) (once (zs.take i)).length
theorem set_loop (W : WalksS prog w A.in1 J fp wr GG n PP St) (T : Addr) (hT : T ∉ fp) (zs : List Str) (hz : zs.length = n) (hb : n + 1 < 4096) (hv : ∀ i v, PP i v → ∃ t, v = .str (zs.getD i Str.empty) t) :
    ∀ (m i : Nat) (s : Shared), n - i = m → i ≤ n → St i s → Made prog w s.heap T zs i → (∀ s', Moved (T :: wr) GG s s' → Made prog w s'.heap T zs n → R (.ok (.ret .none)) s') →
      codeAny (model prog w) A (.builtin "set.update.loop" ⟨[.ref T, .ref J], []⟩) R s := by
  have nw : T ∉ wr := fun z => hT (W.sub _ z)
  have more : ∀ b ∈ wr, b ∈ T :: wr := fun b z => List.mem_cons_of_mem _ z
  have stay : ∀ {s s' : Shared} {i : Nat}, Moved wr GG s s' → Made prog w s.heap T zs i → Made prog w s'.heap T zs i := fun {s s' i} mv ⟨o, es, ep, t, ho, rest⟩ => ⟨o, es, ep, t, mv.heap T _ nw ho, rest⟩
  intro m
  induction m with
  | zero =>
    intro i s hm hi st hS k
    obtain rfl : i = n := by omega
    apply codeAny_builtin PyProof.Rows.F.entry_set_update_loop
    rw [Around.under_plainId PyProof.Rows.F.plain_set_update_loop _]
    show wpAny _ A.in1 (pyNext (.ref J) >>= _) _ _ s
    apply wpAny_bind
    apply W.done s _ _ st
    intro s' mv
    exact wpAny_pure (k s' (mv.mono more) (stay mv hS))
  | succ m ih =>
    intro i s hm hi st hS k
    have hlt : i < n := by omega
    apply codeAny_builtin PyProof.Rows.F.entry_set_update_loop
    rw [Around.under_plainId PyProof.Rows.F.plain_set_update_loop _]
    show wpAny _ A.in1 (pyNext (.ref J) >>= _) _ _ s
    apply wpAny_bind
    apply W.item i s _ _ hlt st
    intro v s' hP st' mv
    obtain ⟨t, rfl⟩ := hv i v hP
    generalize hx : zs.getD i Str.empty = x
    have hS' := stay mv hS
    show wpAny _ A.in1 (holding [Value.str x t] (setAdd T (.str x t)) >>= _) _ _ s'
    apply wpAny_bind
    apply wpAny_holding
    unfold setAdd
    apply wpAny_holding
    apply wpAny_bind
    apply (PySem.strKind prog w).pyHash (k := x) (strKind_is _ _ _ _)
    have hroom : (once (zs.take i)).length + 1 < scanBound := by
      have h1 := once_len (zs.take i)
      rw [List.length_take] at h1
      unfold scanBound
      omega
    refine wpAny_setAddHashed_of (knd := PySem.strKind prog w) (s := { s' with toks := s'.toks + 1 }) (strKind_is _ _ _ _) rfl hS' hroom fun h' same hS2 => ?_
    have hz1 : zs.take (i + 1) = zs.take i ++ [x] := by
      have hi2 : i < zs.length := by omega
      rw [List.take_succ_eq_append_getElem hi2, ← hx]
      simp [List.getD_eq_getElem?_getD, hi2]
    have hS3 : Made prog w h' T zs (i + 1) := by
      unfold Made
      rw [hz1, once_snoc]
      refine SetOf_congr hS2 (fun q => ?_) ?_
      · by_cases h1 : x ∈ once (zs.take i)
        · by_cases h2 : q = x
          · subst h2
            simp [h1]
          · simp [h1, h2]
        · simp [h1]
      · by_cases h1 : x ∈ once (zs.take i) <;> simp [h1]
    refine wpAny_pure ⟨plainId_quiet PyProof.Rows.F.plain_set_update_loop _, ih (i + 1) _ (by omega) hlt (W.frame _ s' _ _ st' (Nat.le_succ _) fun b z o e => ?_) hS3 fun s2 mv2 hS4 => ?_⟩
    · have nb : b ≠ T := fun y => hT (by rw [← y]; exact z)
      rw [same.2 b nb]
      exact e
    · refine k s2 (Moved.trans W.gtrans ((mv.mono more).then_heap (Nat.le_succ _) fun b o z e => ?_) mv2) hS4
      have nb : b ≠ T := fun y => z (by rw [y]; exact List.mem_cons_self)
      rw [same.2 b nb]
      exact e
end
section
variable {prog : Program} {w : World} {A : Around} {E : Value → Shared → Prop} {s : Shared}
abbrev newSetO (led : Bool) : Obj := { cls := .type "set", dict := none, data := .set #[] 0 (.fresh 0 0 led) }
set_option maxHeartbeats 3200000 in
theorem call_set_texts {l : Addr} {its : Array Value} {zs : List Str} {Q : Value → Shared → Prop} (hh : A.handled = none) (hl : s.heap.IsList l its) (hi : StrsAre its.toList zs) (hb : zs.length + 1 < 4096)
    (h : ∀ (h' : Heap) (tk : Nat), h'.SetOf (PySem.strKind prog w) s.heap.objs.size (fun k => decide (k ∈ once zs)) (once zs).length → (∀ b o, b < s.heap.objs.size → s.heap.get? b = some o → h'.get? b = some o) → Q (.ref s.heap.objs.size) { s with heap := h', toks := tk }) :
    wpAny (model prog w) A (call (.type "set") [.ref l]) Q E s := by
  have cs := PySem.F.called_set
  obtain ⟨c0, tl0, g1⟩ := cs.mro
  have g2 := cs.made
  have g3 := cs.sub
  have g4 := cs.notType
  have g5 := cs.canCreate
  have g6 := PySem.F.typeCall_set_1 (.ref l)
  apply wpAny_call
  apply codeAny_of_tree
  show wpAny _ _ (callAny (.type "set") _) _ _ _
  refine wpAny_pure ⟨Code.quiet_builtin _ (by decide +kernel), ?_⟩
  apply codeAny_builtin PySem.F.entry_type_call
  rw [Around.under_plain (weight_type_call_type "set" [.ref l] []) rfl]
  repeat (any_goals (first | assumption | wp_step))
  refine codeAny_mono (code_set_new_1 (.ref l) (E := E) (Q₁ := fun ob sB => ∃ led : Bool, ob = .ref s.heap.objs.size ∧ sB = { s with heap := s.heap.push (newSetO led) }) fun led => ⟨led, rfl, rfl⟩) fun r sB hr => ?_
  cases r with
  | error e => exact hr
  | ok fl =>
    cases fl with
    | ret ob =>
      obtain ⟨led, rfl, rfl⟩ := hr
      have hS : (s.heap.push (newSetO led)).get? s.heap.objs.size = some (newSetO led) := Heap.get?_push_size _ rfl
      have hT : Shared.TypeIs { s with heap := s.heap.push (newSetO led) } (.ref s.heap.objs.size) "set" := ⟨_, hS, rfl⟩
      have g7 := cs.init.lookup
      have g8 := cs.init.bind (.ref s.heap.objs.size)
      repeat (any_goals (first | assumption | wp_step))
      refine codeAny_mono (codeAny_call_builtin (R := wants (fun r sC => r = .none ∧ ∃ h' tk, sC = { s with heap := h', toks := tk } ∧ h'.SetOf (PySem.strKind prog w) s.heap.objs.size (fun k => decide (k ∈ once zs)) (once zs).length ∧ (∀ b o, b < s.heap.objs.size → s.heap.get? b = some o → h'.get? b = some o)) E) cs.init.plain PySem.F.entry_set_init (check_set_init_1 hT ?_)) fun r2 sC hr2 => ?_
      · obtain ⟨⟨ocl, odi, oda, osl⟩, hol, hcl, nl, hdl⟩ := hl
        simp only at hcl hdl
        subst hcl hdl
        have hol2 : (s.heap.push (newSetO led)).get? l = some { cls := .type "list", dict := odi, data := .seq its nl, slots := osl } := Heap.get?_push_of_some _ hol
        have g9 := PySem.F.sub_list_set
        have g10 := PySem.F.sub_list_frozenset
        have g11 : (Value.type "list" == Value.type "dict") = false := by decide
        have hL : (s.heap.push (newSetO led)).IsList l its := ⟨_, hol2, rfl, nl, rfl⟩
        unfold Builtin.«set.__init__» noKeywords Builtin.Frozenset.updateFrom
        generalize hPI : pyIter = PI
        wp_walk
        subst hPI
        apply wpAny_pyIter_list hL
        apply wpAny_bind
        apply wpAny_runValue
        have hlS : l < s.heap.objs.size := Heap.lt_size hol
        have hh3 : A.in1.in1.in1.handled = none := by simp [hh]
        have d1 : l ≠ (s.heap.push (newSetO led)).objs.size := by
          rw [Heap.size_push]
          exact Nat.ne_of_lt (Nat.lt_succ_of_lt hlS)
        have d2 : s.heap.objs.size ∉ [(s.heap.push (newSetO led)).objs.size, l] := by
          rw [Heap.size_push]
          simp only [List.mem_cons, List.mem_singleton, List.not_mem_nil, or_false, not_or]
          exact ⟨Nat.ne_of_lt (Nat.lt_succ_self _), Nat.ne_of_gt hlS⟩
        have hsz : zs.length = its.size := by rw [← StrsAre.len_eq hi, Array.length_toList]
        have ht : zs.take its.size = zs := by rw [← hsz, List.take_length]
        refine set_loop ((Walks.list hh3 _ l d1 its).toS) s.heap.objs.size d2 zs hsz (by omega) (fun i v hv => SS.strs_at hi i v (by rw [Array.getElem?_toList]; exact hv)) (its.size - 0) 0 _ (by omega) (Nat.zero_le _) ⟨⟨_, Heap.get?_push_size _ rfl, rfl, rfl⟩, hL.push _⟩ ?h0 ?hE
        case h0 =>
          have hget : ((s.heap.push (newSetO led)).push { cls := .type "list_iterator", data := .fields #[.ref l, .int 0 0] }).get? s.heap.objs.size = some (newSetO led) := Heap.get?_push_of_some _ hS
          exact SetOf_congr ((setObjOf_fresh (knd := PySem.strKind prog w) led).setOf hget (by unfold scanBound; omega)) (fun k => by simp [once]) (by simp [once])
        case hE =>
          intro s' mv hM
          obtain ⟨h', gn, dn, tk', os'⟩ := s'
          obtain rfl : gn = s.gens := mv.gens
          obtain rfl : dn = s.drawn := mv.drawn
          obtain rfl : os' = s.os := mv.os
          unfold Made at hM
          rw [ht] at hM
          show wpAny _ _ _ _ _ _
          apply wpAny_pure
          show wpAny _ _ (ret Value.none) _ _ _
          refine wpAny_pure ⟨rfl, h', tk', rfl, hM, fun b ob hbs e => ?_⟩
          refine mv.heap b ob ?_ (Heap.get?_push_of_some _ (Heap.get?_push_of_some _ e))
          simp only [List.mem_cons, List.mem_singleton, List.not_mem_nil, or_false, not_or]
          refine ⟨Nat.ne_of_lt hbs, ?_⟩
          rw [Heap.size_push]
          exact Nat.ne_of_lt (Nat.lt_succ_of_lt hbs)
      · cases r2 with
        | error e => exact hr2
        | ok fl2 =>
          cases fl2 with
          | ret r =>
            obtain ⟨rfl, h', tk, rfl, hS', hk'⟩ := hr2
            repeat (any_goals (first | assumption | wp_step))
            exact h _ _ hS' hk'
          | _ => exact hr2.elim
    | _ => exact hr.elim
end
section
variable [TBL] {X : Cx}
def strsOf : List PyData → Option (List Str)
  | [] => some []
  | .str z :: r => (strsOf r).map (z :: ·)
  | _ :: _ => none
theorem strsOf_eq : ∀ {ds : List PyData} {zs : List Str}, strsOf ds = some zs → ds = zs.map .str
  | [], _, h => by
    cases h
    rfl
  | .str z :: r, _, h => by
    obtain ⟨zs, h1, rfl⟩ := map_inv (show (strsOf r).map (z :: ·) = _ from h)
    rw [strsOf_eq h1]
    rfl
theorem rvl_strs_inv {K : PySem.W.Frag} {pp : Option Addr} {G : Hp} : ∀ {zs : List Str} {vs : List V}, RvL K pp G vs (zs.map PyData.str) → vs = zs.map V.str
  | [], _, h => by
    cases h
    rfl
  | z :: zs, _, h => by
    cases h with
    | cons a b =>
      rw [rv_str a, rvl_strs_inv b]
      rfl
def lenSetD : PyData → Option PyData
  | .list ds => match strsOf ds with
    | some zs => if decide (zs.length + 1 < 4096) then some (.int (once zs).length) else none
    | none => none
  | _ => none
theorem lenSetD_inv {x d : PyData} (h : lenSetD x = some d) : ∃ zs : List Str, x = .list (zs.map .str) ∧ zs.length + 1 < 4096 ∧ d = .int (once zs).length := by
  unfold lenSetD at h
  split at h
  · split at h
    · next zs e =>
      obtain ⟨h1, rfl⟩ := ite_inv h
      exact ⟨zs, by rw [strsOf_eq e], of_decide_eq_true h1, rfl⟩
    · cases h
  · cases h
theorem pd_lenSet {a : Expr} {g : EG} {p p2 q pos : Pos} (hc : X.calm = true) (hg : Gl X "len") (hm : X.mg "len" = none) (hg2 : Gl X "set") (hm2 : X.mg "set" = none) (ha : PD X a g)
    (na : starEach [a] X.env = (false, eval a X.env) :: starEach [] X.env := by rfl) : PD X (.Call (.Name "len" p) [.Call (.Name "set" p2) [a] [] q] [] pos) (eUn lenSetD g) := by
  refine ⟨fun pins s σ H Q I ⟨pp, ps, G, S, d, ps', c, sl, e, k⟩ => ?_⟩
  obtain ⟨x, p1, e1, e⟩ := bindP_inv e
  obtain ⟨d', e2, e⟩ := map_inv e
  cases e
  obtain ⟨zs, rfl, hz, rfl⟩ := lenSetD_inv e2
  refine Call_ (ld_blt (X := X) I hg hm boot_len ?_)
  refine PyProof.Rows.callWith_builtin1 (id := "len") (PyProof.Rows.args_cons ?_ rfl) rfl rfl
  refine Call_ (ld_blt (X := X) I hg2 hm2 boot_set ?_)
  refine PyProof.Rows.callWith_type1 (PyProof.Rows.args_cons (thn (ha.run pins s σ H (fun v H1 => ∃ G1, Go pp _ [] G H G1 H1 ∧ Rv X.K pp G1 v (.list (zs.map .str))) I ⟨pp, ps, G, S, _, _, c, sl, e1, fun v G1 H1 g1 r1 => ⟨G1, g1, r1⟩⟩) fun u s1 ⟨v, H1, I1, ru, G1, g1, r1⟩ => PyProof.Rows.args_nil ?_) na) na rfl
  obtain ⟨l, vs, rfl, hx, ra⟩ := rv_lst r1
  cases ru
  have := rvl_strs_inv ra
  subst this
  obtain ⟨its, rv, pl, _⟩ := I1.list (.inl (same_l g1.cf.ex hx))
  refine call_set_texts (I1.ok.hd hc) pl.isList (by simpa using strsAre_of rv) hz fun h' tk hS hk => ?_
  apply PyProof.Rows.args_nil
  obtain ⟨o, es, ep, t, ho, hex, hd, _, _, _, hf, hn⟩ := hS
  have I2 : Inv X pins σ H1 { s1 with heap := h', toks := tk } := I1.kept fun b o e => hk b o (Heap.lt_size e) e
  have hle := once_len zs
  exact call_len_set ho hex hd hf (by rw [hn]; omega) ⟨.int (once zs).length, H1, I2.tok _, ⟨_, by rw [hn]⟩, k _ G1 H1 g1 (.int _)⟩
end
end DL

set_option Elab.async false
set_option linter.all false
set_option maxRecDepth 100000
/-! D-layer, part t: sorted(e) of texts, tuple * number, f(pot(..)). -/
namespace DL
open PySem L2 PyProof.Rows
/-! ### sorted(e), e a list of texts -/
def leS (a b : Str) : Bool := !decide (b.cps.toList < a.cps.toList)
theorem leS_iff {a b : Str} : leS a b = true ↔ a.cps.toList ≤ b.cps.toList := by
  unfold leS
  rw [Bool.not_eq_true', decide_eq_false_iff_not]
  exact Iff.rfl
theorem str_ext {a b : Str} (h : a.cps.toList = b.cps.toList) : a = b := by
  obtain ⟨x⟩ := a
  obtain ⟨y⟩ := b
  have : x = y := Array.toList_inj.mp h
  rw [this]
theorem leS_trans {a b c : Str} (h1 : leS a b = true) (h2 : leS b c = true) : leS a c = true := leS_iff.mpr (List.le_trans (leS_iff.mp h1) (leS_iff.mp h2))
theorem leS_anti {a b : Str} (h1 : leS a b = true) (h2 : leS b a = true) : a = b := str_ext (List.le_antisymm (leS_iff.mp h1) (leS_iff.mp h2))
theorem leS_total (a b : Str) : (leS a b || leS b a) = true := by
  rw [Bool.or_eq_true, leS_iff, leS_iff]
  exact List.le_total _ _
theorem rising_pw : ∀ (l : List Str) (p : Str), risingS p l = true → (p :: l).Pairwise (fun a b => leS a b = true)
  | [], p, _ => by simp
  | x :: r, p, h => by
    have h' : (!PySem.Spec.ltCps x.cps.toList p.cps.toList && risingS x r) = true := h
    rw [Bool.and_eq_true] at h'
    have hpx : leS p x = true := by
      unfold leS
      rw [← ltCps_eq]
      exact h'.1
    have ih := rising_pw r x h'.2
    rw [List.pairwise_cons]
    refine ⟨fun y hy => ?_, ih⟩
    rcases List.mem_cons.mp hy with rfl | hy
    · exact hpx
    · exact leS_trans hpx ((List.pairwise_cons.mp ih).1 y hy)
theorem sorted_pw {l : List Str} (h : sortedS l = true) : l.Pairwise (fun a b => leS a b = true) := by
  cases l with
  | nil => exact .nil
  | cons x r => exact rising_pw r x h
theorem sorted_one {ys zs : List Str} (hp : ys.Perm zs) (hs : sortedS ys = true) : ys = zs.mergeSort leS :=
  List.Perm.eq_of_pairwise (fun a b _ _ => leS_anti) (sorted_pw hs) (List.pairwise_mergeSort (le := leS) (fun a b c h1 h2 => leS_trans h1 h2) leS_total zs) (hp.trans (List.mergeSort_perm zs leS).symm)
section
variable [TBL] {X : Cx}
def sortSD : PyData → Option PyData
  | .list ds => match strsOf ds with
    | some zs => if decide (zs.length < 64) then some (.list ((zs.mergeSort leS).map .str)) else none
    | none => none
  | _ => none
theorem sortSD_inv {x d : PyData} (h : sortSD x = some d) : ∃ zs : List Str, x = .list (zs.map .str) ∧ zs.length < 64 ∧ d = .list ((zs.mergeSort leS).map .str) := by
  unfold sortSD at h
  split at h
  · split at h
    · next zs e =>
      obtain ⟨h1, rfl⟩ := ite_inv h
      exact ⟨zs, by rw [strsOf_eq e], of_decide_eq_true h1, rfl⟩
    · cases h
  · cases h
theorem cd_sortS : CallR X (.builtin "sorted") (rDL X.K (one sortSD)) := by
  intro pins s σ H vs us Q I rs ⟨pp, ps, G, xs, d, c, r, e, k⟩
  obtain ⟨x, ex, e1⟩ := one_inv e
  subst ex
  clear e
  obtain ⟨v, rfl, r1⟩ := rvl_one r
  obtain ⟨zs, rfl, h64, rfl⟩ := sortSD_inv e1
  obtain ⟨a, ws, rfl, hx, ra⟩ := rv_lst r1
  have := rvl_strs_inv ra
  subst this
  refine cr_sortedS pins s σ H _ us Q I rs ⟨a, zs, rfl, cf_l c hx, h64, fun ys p hp hs hn => ?_⟩
  rw [sorted_one hp hs]
  have gl : Go pp ps [] G H (upd G p (.lst ((zs.mergeSort leS).map V.str))) (upd H p (.lst ((zs.mergeSort leS).map V.str))) := Go.lay c hn
  exact k _ _ _ gl (.lst (.inl upd_same) (rvl_strs _))
end
/-! ### tuple * number -/
set_option maxHeartbeats 1000000 in
theorem tuple_mul0 (l : Addr) (n : Nat) (dd : Option Addr) (sl : Array (Option Value)) (x : Int) (u : Tok) (c0 : (decide (x < -(2 ^ 63)) || decide (x ≥ 2 ^ 63)) = false) :
    Meets (Builtin.«tuple.__mul__» ⟨[.ref l, .int x u], []⟩) (fun _ R s => s.heap.get? l = some { cls := .type "tuple", dict := dd, data := .seq #[] n, slots := sl } ∧ R (.ok (.ret (Value.ref l))) s) :=
  .of_wp fun prog w A R s h => by
    obtain ⟨hp, g, d, tk, os⟩ := s
    obtain ⟨hl, h⟩ := h
    have f1 := AutoSeq1.idx_int
    wp_walk using wpAny_loadPart' hl
    repeat (first
      | (refine wpAny_ite_false (decide_eq_false (by rw [c0]; exact Bool.false_ne_true)) ?_; wp_walk using wpAny_loadPart' hl)
      | (refine wpAny_ite_true (decide_eq_true (by simp)) ?_; wp_walk using wpAny_loadPart' hl))
    exact ⟨_, rfl, h⟩
section
variable [TBL] {X : Cx}
theorem op_rep0 {pins : List (Addr × Obj)} {s : Shared} {σ : L2.St} {H : Hp} {Q : VK} {l : Addr} {k : Int} {t : Tok} (I : Inv X pins σ H s) (hT : SqT X.K H l []) (h1 : -(2 ^ 63) ≤ k) (h2 : k < 2 ^ 63) (q : Q (.ref l) H) :
    wpAny (model X.prog X.w) X.A (binaryOp .Mult (.ref l) (.int k t)) (EP X pins σ Q) X.xe s := by
  obtain ⟨its, r, ⟨⟨ocl, odi, oda, osl⟩, ho, hc, n, hd⟩, _⟩ := I.tuple hT
  simp only at hc hd
  cases r
  subst hc hd
  have hty : s.TypeIs (.ref l) "tuple" := ⟨_, ho, rfl⟩
  have c0 : (decide (k < -(2 ^ 63)) || decide (k ≥ 2 ^ 63)) = false := by
    rw [decide_eq_false (by omega), decide_eq_false (by omega)]
    rfl
  refine wpAny_binaryOp_repeat_ref (T := "tuple") (U := "int") (by decide) hty (fun s' => typeIs_int s' k t) noFill_tuple_mul F.fills_int_mul F.slot_int_rmul repeat_tuple F.slot_int_index.lookup ?_
  refine call_meets F.slot_int_rmul (typeIs_int s k t) F.entry_int_rmul (F.args_int_rmul_2 _ _) (int_rmul_tuple k t l #[] n odi osl) ⟨ho, rfl, hty, ?_⟩
  exact call_meets F.slot_tuple_mul hty F.entry_tuple_mul (F.args_tuple_mul_2 _ _) (tuple_mul0 l n odi osl k t c0) ⟨ho, .ref l, H, I, rfl, q⟩
theorem rvl_rep {K : PySem.W.Frag} {pp : Option Addr} {G : Hp} {vs : List V} {ds : List PyData} (r : RvL K pp G vs ds) : ∀ n : Nat, RvL K pp G (List.replicate n vs).flatten (List.replicate n ds).flatten
  | 0 => .nil
  | n + 1 => by
    rw [List.replicate_succ, List.replicate_succ, List.flatten_cons, List.flatten_cons]
    exact r.app (rvl_rep r n)
def repT : PyData → PyData → Option PyData
  | .tuple [], .int k => if decide (-(2 ^ 63) ≤ k) && decide (k < 2 ^ 63) then some (.tuple []) else none
  | .tuple (d :: ds), .int k => if decide (2 ≤ k) && decide (k ≤ 1000) && decide ((d :: ds).length ≤ 1000) then some (.tuple (List.replicate k.toNat (d :: ds)).flatten) else none
  | _, _ => none
theorem opd_repT : OpD X (binaryOp .Mult) repT := by
  intro pins s σ H x y v u Q I rx ry ⟨pp, ps, G, dx, dy, d, c, r1, r2, e, kk⟩
  unfold repT at e
  split at e
  · next k =>
    obtain ⟨h1, rfl⟩ := ite_inv e
    rw [Bool.and_eq_true] at h1
    obtain ⟨a, xs, rfl, hx, ha⟩ := rv_tup r1
    cases ha
    cases r2
    cases rx
    obtain ⟨t, rfl⟩ := ry
    exact op_rep0 I (cf_t c hx) (of_decide_eq_true h1.1) (of_decide_eq_true h1.2) (kk _ G H (Go.refl c) r1)
  · next d0 ds k =>
    obtain ⟨h1, rfl⟩ := ite_inv e
    rw [Bool.and_eq_true, Bool.and_eq_true] at h1
    obtain ⟨a, xs, rfl, hx, ha⟩ := rv_tup r1
    cases r2
    have hl := ha.length
    refine op_repT pins s σ H _ _ v u Q I rx ry ⟨a, k, xs, rfl, rfl, cf_t c hx, fun z => ?_, of_decide_eq_true h1.1.1, of_decide_eq_true h1.1.2, by rw [hl]; exact of_decide_eq_true h1.2, fun p hp => ?_⟩
    · rw [z] at hl
      simp at hl
    · have gl : Go pp ps [] G H (upd G p (.tup (List.replicate k.toNat xs).flatten)) (upd H p (.tup (List.replicate k.toNat xs).flatten)) := Go.lay c hp
      exact kk _ _ _ gl (.tup (.inl (.inl upd_same)) (RvL.mono gl.gg _ _ (rvl_rep ha k.toNat)))
  · cases e
def mulD : PyData → PyData → Option PyData := orD mulI repT
theorem opd_mulD : OpD X (binaryOp .Mult) mulD := opd_or opd_mul opd_repT
/-! ### f(pot(..)) -/
def eCallPot (fn : List PyData → Pt → Option (PyData × Pt)) (fp : List PyData → Pt → Option (List PyData × Pt)) (gs : AG) : EG := fun S ps => bindP (gs S ps) fun ds p => match fp ds p with
  | some ([.int a, .int b], p') => match fn [potD] (a, b) with
    | some (d, _) => if potFree d then some (d, p') else none
    | none => none
  | _ => none
theorem go_back {pp : Option Addr} {ps q : Pt} {G H G1 H1 G2 H2 : Hp} {p : Addr} (g1 : Go pp ps [] G H G1 H1) (hp : H p = none) (np : pp ≠ some p) (g2 : Go (some p) q [] G1 H1 G2 H2) : Go pp ps [] G H G2 H2 := by
  refine ⟨g1.gg.trans g2.gg, ⟨g2.cf.ex, fun a ha => ?_, g2.cf.tb, g2.cf.vt, g2.cf.ot⟩, fun b o e n => ?_, fun b o e n z nt => ?_, fun b e => g1.there b (g2.there b e)⟩
  · obtain ⟨k1, k2⟩ := g1.cf.pot a ha
    have ne : some p ≠ some a := fun z => np (by rw [ha, ← z])
    refine ⟨?_, g2.keep a _ k2 ne (by simp) nt_lst⟩
    cases w : G2 a with
    | none => rfl
    | some o =>
      have := g2.fresh a o w k1
      rw [k2] at this
      cases this
  · cases w : G1 b with
    | none => exact g1.there b (g2.fresh b o e w)
    | some u => exact g1.fresh b u w n
  · have ne : some p ≠ some b := fun y => by
      cases y
      rw [hp] at e
      cases e
    exact g2.keep b o (g1.keep b o e n z nt) ne z nt
theorem pd_callPot {k k2 : Nat} {f fo : Addr} {fd fdo : FuncData} {qs : List Str} {qn : Str} {fn : List PyData → Pt → Option (PyData × Pt)} {fp : List PyData → Pt → Option (List PyData × Pt)} {x y : Str} {p p2 pos pos2 : Pos} {e : Expr} {es : List Expr} {gs : AG}
    (F : FnD X.prog X.w X.K X.mg X.base k f fd [qn] fn) (hr : Rm k X.A) (hg : Gl X x) (hm : X.mg x = some (.ref f)) (hk : PySem.W.keepIn X.K (.ref f) = true) (hb : Binds X.K fd [qn] [])
    (Fo : FnN X.prog X.w X.K X.mg X.base k2 fo fdo qs fp) (hro : Rm k2 X.A) (hgo : Gl X y) (hmo : X.mg y = some (.ref fo)) (hko : PySem.W.keepIn X.K (.ref fo) = true) (hbo : Binds X.K fdo qs []) (ha : PDA X (e :: es) gs) (hl : ∀ S ps ds p, gs S ps = some (ds, p) → ds.length = qs.length)
    (hdx : (x == ("__debug__" : Str)) = false := by decide) (hdy : (y == ("__debug__" : Str)) = false := by decide) (he : starEach (e :: es) X.env = (false, eval e X.env) :: starEach es X.env := by rfl) (hpl : (backTo pos2 (starEach es X.env)).any (·.1) = false := by rfl)
    (he1 : starEach [.Call (.Name y p2) (e :: es) [] pos2] X.env = (false, eval (.Call (.Name y p2) (e :: es) [] pos2) X.env) :: starEach [] X.env := by rfl) :
    PD X (.Call (.Name x p) [.Call (.Name y p2) (e :: es) [] pos2] [] pos) (eCallPot fn fp gs) :=
  pe_imp (pe_callG F hr hg hm hk hb (pa_cons (pe_callG Fo hro hgo hmo hko hbo ha hdy he hpl) pa_nil he1) hdx he1 rfl) fun σ H Q ⟨pp, ps, G, S, d, ps', c, s, e, kk⟩ => by
    obtain ⟨ds, p1, e1, e⟩ := bindP_inv e
    split at e
    · next a b p2 e2 =>
      split at e
      · next d2 q2 e3 =>
        obtain ⟨hf, e⟩ := ite_inv e
        cases e
        refine ⟨pp, ps, G, S, ds, p1, c, s, e1, fun vs G1 H1 g1 r1 => ⟨pp, p1, G1, ds, _, _, hl _ _ _ _ e1, g1.cf, r1, e2, fun pa us G2 H2 g2 hp1 hg2 hp2 rvu => ?_⟩⟩
        obtain ⟨va, vb, rfl, ra, rb⟩ := rvl_two rvu
        cases ra
        cases rb
        have g12 := g1.trans g2
        have hp0 : H pa = none := g1.none_of hp1
        have npp : pp ≠ some pa := c.pne hp0
        have cf2 : Cf (some pa) (a, b) G2 H2 := ⟨g2.cf.ex, fun z hz => by
          cases hz
          exact ⟨hg2, hp2⟩, g2.cf.tb, g2.cf.vt, g2.cf.ot⟩
        exact ⟨some pa, (a, b), G2, [potD], _, _, rfl, cf2, .cons (.pot rfl) .nil, e3, fun v G3 H3 g3 r3 => kk v G3 H3 (go_back g12 hp0 npp g3) (Rv.swap _ _ hf r3)⟩
      · cases e
    · cases e
end
end DL
namespace DL
theorem permL_len {α : Type} {is : List Nat} {n m : Nat} (h : (permL is (List.range n)).length = m) (ds : List α) (hd : ds.length = n) : (permL is ds).length = m := by
  subst hd
  rw [← h]
  clear h
  induction is with
  | nil => rfl
  | cons i is ih =>
    by_cases hi : i < ds.length
    · have e1 : permL (i :: is) ds = ds[i] :: permL is ds := by simp [permL, List.getElem?_eq_getElem hi]
      have e2 : permL (i :: is) (List.range ds.length) = i :: permL is (List.range ds.length) := by simp [permL, hi]
      rw [e1, e2, List.length_cons, List.length_cons, ih]
    · have e1 : permL (i :: is) ds = permL is ds := by simp [permL, List.getElem?_eq_none (Nat.le_of_not_lt hi)]
      have e2 : permL (i :: is) (List.range ds.length) = permL is (List.range ds.length) := by simp [permL, hi]
      rw [e1, e2, ih]
end DL

set_option Elab.async false
set_option linter.all false
set_option maxRecDepth 100000
namespace K71
open PySem L2 DL
def topS (i : Nat) : Stmt := PySem.Challenge.pw_nestdeep_k71_contexts_judged.main.body.getD i (.Pass ⟨0, 0, 0, 0⟩)
abbrev s_is_integer : Stmt := topS 4
abbrev s_is_name : Stmt := topS 5
abbrev s_is_ascending : Stmt := topS 7
abbrev s_is_passed : Stmt := topS 10
abbrev s_are_pairs : Stmt := topS 11
abbrev s_is_context : Stmt := topS 12
abbrev s__law_pot : Stmt := topS 14
abbrev s__law_draw : Stmt := topS 15
abbrev s__law_pick : Stmt := topS 16
abbrev s__law_words : Stmt := topS 17
abbrev s__law_context : Stmt := topS 18
abbrev s__law_whole : Stmt := topS 19
abbrev s__law_is_name : Stmt := topS 20
abbrev s__law_is_pair : Stmt := topS 21
abbrev s__law_are_pairs : Stmt := topS 22
abbrev s__law_is_context : Stmt := topS 23
abbrev s__law_exchanged : Stmt := topS 24
abbrev s__law_spoilt_item : Stmt := topS 25
abbrev s__law_spoilt_part : Stmt := topS 26
abbrev s__law_spoilt : Stmt := topS 27
abbrev s__law_told_right : Stmt := topS 28
abbrev s__law_right : Stmt := topS 29
abbrev s_law : Stmt := topS 30
def k_LETTERS : PyData := .str (Str.ofString "abcdefghijklmnopqrstuvwxyz")
def k_MOST_HANDLERS : PyData := .int 5
def k_MOST_LETTERS : PyData := .int 8
def k_RESERVED : PyData := .tuple ([Str.ofString "call", Str.ofString "do", Str.ofString "either", Str.ofString "else", Str.ofString "end", Str.ofString "endless", Str.ofString "form", Str.ofString "frame", Str.ofString "function", Str.ofString "handler", Str.ofString "house", Str.ofString "kind", Str.ofString "limit", Str.ofString "loop", Str.ofString "most", Str.ofString "now", Str.ofString "or", Str.ofString "returns", Str.ofString "room", Str.ofString "shut", Str.ofString "size", Str.ofString "stop", Str.ofString "take", Str.ofString "task", Str.ofString "times"].map .str)
/-- what the top leaves: each def, the built-ins that are not hidden -/
structure TX (K : PySem.W.Frag) (mg : Str → Option Value) where
  a_is_integer : Addr
  fd_is_integer : FuncData
  F_is_integer : Fun K "is_integer" "is_integer" s_is_integer a_is_integer fd_is_integer
  b_is_integer : Binds K fd_is_integer [Str.ofString "value", Str.ofString "least"] []
  g_is_integer : mg (Str.ofString "is_integer") = some (.ref a_is_integer)
  a_is_name : Addr
  fd_is_name : FuncData
  F_is_name : Fun K "is_name" "is_name" s_is_name a_is_name fd_is_name
  b_is_name : Binds K fd_is_name [Str.ofString "value"] []
  g_is_name : mg (Str.ofString "is_name") = some (.ref a_is_name)
  a_is_ascending : Addr
  fd_is_ascending : FuncData
  F_is_ascending : Fun K "is_ascending" "is_ascending" s_is_ascending a_is_ascending fd_is_ascending
  b_is_ascending : Binds K fd_is_ascending [Str.ofString "keys"] []
  g_is_ascending : mg (Str.ofString "is_ascending") = some (.ref a_is_ascending)
  a_is_passed : Addr
  fd_is_passed : FuncData
  F_is_passed : Fun K "is_passed" "is_passed" s_is_passed a_is_passed fd_is_passed
  b_is_passed : Binds K fd_is_passed [Str.ofString "value", Str.ofString "many"] []
  g_is_passed : mg (Str.ofString "is_passed") = some (.ref a_is_passed)
  a_are_pairs : Addr
  fd_are_pairs : FuncData
  F_are_pairs : Fun K "are_pairs" "are_pairs" s_are_pairs a_are_pairs fd_are_pairs
  b_are_pairs : Binds K fd_are_pairs [Str.ofString "value"] []
  g_are_pairs : mg (Str.ofString "are_pairs") = some (.ref a_are_pairs)
  a_is_context : Addr
  fd_is_context : FuncData
  F_is_context : Fun K "is_context" "is_context" s_is_context a_is_context fd_is_context
  b_is_context : Binds K fd_is_context [Str.ofString "callbacks", Str.ofString "value"] []
  g_is_context : mg (Str.ofString "is_context") = some (.ref a_is_context)
  a__law_pot : Addr
  fd__law_pot : FuncData
  F__law_pot : Fun K "_law_pot" "_law_pot" s__law_pot a__law_pot fd__law_pot
  b__law_pot : Binds K fd__law_pot [Str.ofString "_law_script", Str.ofString "_law_index"] []
  g__law_pot : mg (Str.ofString "_law_pot") = some (.ref a__law_pot)
  a__law_draw : Addr
  fd__law_draw : FuncData
  F__law_draw : Fun K "_law_draw" "_law_draw" s__law_draw a__law_draw fd__law_draw
  b__law_draw : Binds K fd__law_draw [Str.ofString "_law_pot_here", Str.ofString "_law_many"] []
  g__law_draw : mg (Str.ofString "_law_draw") = some (.ref a__law_draw)
  a__law_pick : Addr
  fd__law_pick : FuncData
  F__law_pick : Fun K "_law_pick" "_law_pick" s__law_pick a__law_pick fd__law_pick
  b__law_pick : Binds K fd__law_pick [Str.ofString "_law_pot_here", Str.ofString "_law_some"] []
  g__law_pick : mg (Str.ofString "_law_pick") = some (.ref a__law_pick)
  a__law_words : Addr
  fd__law_words : FuncData
  F__law_words : Fun K "_law_words" "_law_words" s__law_words a__law_words fd__law_words
  b__law_words : Binds K fd__law_words [] []
  g__law_words : mg (Str.ofString "_law_words") = some (.ref a__law_words)
  a__law_context : Addr
  fd__law_context : FuncData
  F__law_context : Fun K "_law_context" "_law_context" s__law_context a__law_context fd__law_context
  b__law_context : Binds K fd__law_context [Str.ofString "_law_pot_here", Str.ofString "_law_calls"] []
  g__law_context : mg (Str.ofString "_law_context") = some (.ref a__law_context)
  a__law_whole : Addr
  fd__law_whole : FuncData
  F__law_whole : Fun K "_law_whole" "_law_whole" s__law_whole a__law_whole fd__law_whole
  b__law_whole : Binds K fd__law_whole [Str.ofString "_law_thing", Str.ofString "_law_least"] []
  g__law_whole : mg (Str.ofString "_law_whole") = some (.ref a__law_whole)
  a__law_is_name : Addr
  fd__law_is_name : FuncData
  F__law_is_name : Fun K "_law_is_name" "_law_is_name" s__law_is_name a__law_is_name fd__law_is_name
  b__law_is_name : Binds K fd__law_is_name [Str.ofString "_law_thing"] []
  g__law_is_name : mg (Str.ofString "_law_is_name") = some (.ref a__law_is_name)
  a__law_is_pair : Addr
  fd__law_is_pair : FuncData
  F__law_is_pair : Fun K "_law_is_pair" "_law_is_pair" s__law_is_pair a__law_is_pair fd__law_is_pair
  b__law_is_pair : Binds K fd__law_is_pair [Str.ofString "_law_thing"] []
  g__law_is_pair : mg (Str.ofString "_law_is_pair") = some (.ref a__law_is_pair)
  a__law_are_pairs : Addr
  fd__law_are_pairs : FuncData
  F__law_are_pairs : Fun K "_law_are_pairs" "_law_are_pairs" s__law_are_pairs a__law_are_pairs fd__law_are_pairs
  b__law_are_pairs : Binds K fd__law_are_pairs [Str.ofString "_law_thing"] []
  g__law_are_pairs : mg (Str.ofString "_law_are_pairs") = some (.ref a__law_are_pairs)
  a__law_is_context : Addr
  fd__law_is_context : FuncData
  F__law_is_context : Fun K "_law_is_context" "_law_is_context" s__law_is_context a__law_is_context fd__law_is_context
  b__law_is_context : Binds K fd__law_is_context [Str.ofString "_law_calls", Str.ofString "_law_thing"] []
  g__law_is_context : mg (Str.ofString "_law_is_context") = some (.ref a__law_is_context)
  a__law_exchanged : Addr
  fd__law_exchanged : FuncData
  F__law_exchanged : Fun K "_law_exchanged" "_law_exchanged" s__law_exchanged a__law_exchanged fd__law_exchanged
  b__law_exchanged : Binds K fd__law_exchanged [Str.ofString "_law_part", Str.ofString "_law_at"] []
  g__law_exchanged : mg (Str.ofString "_law_exchanged") = some (.ref a__law_exchanged)
  a__law_spoilt_item : Addr
  fd__law_spoilt_item : FuncData
  F__law_spoilt_item : Fun K "_law_spoilt_item" "_law_spoilt_item" s__law_spoilt_item a__law_spoilt_item fd__law_spoilt_item
  b__law_spoilt_item : Binds K fd__law_spoilt_item [Str.ofString "_law_pot_here", Str.ofString "_law_item"] []
  g__law_spoilt_item : mg (Str.ofString "_law_spoilt_item") = some (.ref a__law_spoilt_item)
  a__law_spoilt_part : Addr
  fd__law_spoilt_part : FuncData
  F__law_spoilt_part : Fun K "_law_spoilt_part" "_law_spoilt_part" s__law_spoilt_part a__law_spoilt_part fd__law_spoilt_part
  b__law_spoilt_part : Binds K fd__law_spoilt_part [Str.ofString "_law_pot_here", Str.ofString "_law_part"] []
  g__law_spoilt_part : mg (Str.ofString "_law_spoilt_part") = some (.ref a__law_spoilt_part)
  a__law_spoilt : Addr
  fd__law_spoilt : FuncData
  F__law_spoilt : Fun K "_law_spoilt" "_law_spoilt" s__law_spoilt a__law_spoilt fd__law_spoilt
  b__law_spoilt : Binds K fd__law_spoilt [Str.ofString "_law_pot_here", Str.ofString "_law_thing"] []
  g__law_spoilt : mg (Str.ofString "_law_spoilt") = some (.ref a__law_spoilt)
  a__law_told_right : Addr
  fd__law_told_right : FuncData
  F__law_told_right : Fun K "_law_told_right" "_law_told_right" s__law_told_right a__law_told_right fd__law_told_right
  b__law_told_right : Binds K fd__law_told_right [Str.ofString "_law_calls", Str.ofString "_law_thing"] []
  g__law_told_right : mg (Str.ofString "_law_told_right") = some (.ref a__law_told_right)
  a__law_right : Addr
  fd__law_right : FuncData
  F__law_right : Fun K "_law_right" "_law_right" s__law_right a__law_right fd__law_right
  b__law_right : Binds K fd__law_right [Str.ofString "_law_pot_here"] []
  g__law_right : mg (Str.ofString "_law_right") = some (.ref a__law_right)
  a_law : Addr
  fd_law : FuncData
  F_law : Fun K "law" "law" s_law a_law fd_law
  b_law : Binds K fd_law [Str.ofString "_law_script"] []
  g_law : mg (Str.ofString "law") = some (.ref a_law)
  k_LETTERS : Cst K mg (Str.ofString "LETTERS") k_LETTERS
  k_MOST_HANDLERS : Cst K mg (Str.ofString "MOST_HANDLERS") k_MOST_HANDLERS
  k_MOST_LETTERS : Cst K mg (Str.ofString "MOST_LETTERS") k_MOST_LETTERS
  k_RESERVED : Cst K mg (Str.ofString "RESERVED") k_RESERVED
  kb0 : ∀ (s : Shared) (ws : List Value), ws.length = ([Str.ofString "value", Str.ofString "callbacks"] : List Str).length → BindsTo s fd_is_context ⟨[], ([Str.ofString "value", Str.ofString "callbacks"] : List Str).zip ws⟩ (([Str.ofString "callbacks", Str.ofString "value"] : List Str).zip (permL [1, 0] ws))
  m_abs : mg (Str.ofString "abs") = none
  m_all : mg (Str.ofString "all") = none
  m_bool : mg (Str.ofString "bool") = none
  m_divmod : mg (Str.ofString "divmod") = none
  m_int : mg (Str.ofString "int") = none
  m_isinstance : mg (Str.ofString "isinstance") = none
  m_len : mg (Str.ofString "len") = none
  m_list : mg (Str.ofString "list") = none
  m_max : mg (Str.ofString "max") = none
  m_min : mg (Str.ofString "min") = none
  m_range : mg (Str.ofString "range") = none
  m_repr : mg (Str.ofString "repr") = none
  m_set : mg (Str.ofString "set") = none
  m_sorted : mg (Str.ofString "sorted") = none
  m_str : mg (Str.ofString "str") = none
  m_tuple : mg (Str.ofString "tuple") = none
  m_zip : mg (Str.ofString "zip") = none
section
variable [TBL] {P : Program} {w : World} {K : PySem.W.Frag} {mg : Str → Option Value} {base : Heap}
def lamQ (x : Str) (st : Stmt) : Str := (PyProof.Rows.envOfC x (defScope st) 0 0 .none).qual ++ "<lambda>"
/-- the tables of the defs that make lambdas -/
structure TBI (T : TX K mg) (base : Heap) : Prop where
  sys : ∃ o, base.get? sysModules = some o
theorem sc__law_pot : FnScope [Str.ofString "_law_script", Str.ofString "_law_index", Str.ofString "_law_cell"] [Str.ofString "_law_script", Str.ofString "_law_index"] (defScope s__law_pot) := ⟨rfl, rfl, rfl, by decide +kernel, rfl, by decide +kernel, by decide +kernel⟩
def f__law_pot : List PyData → Pt → Option (List PyData × Pt) := runN 3 (sSet 2 (eIf (asB (eOp ltI (eVar 1) (eCB (one lenD) (aCons (eVar 0) aNil)))) (eCB (one absD) (aCons (eOp ixD (eVar 0) (eVar 1)) aNil)) (eOp addD (eOp mulI (eC (.int 7)) (eVar 1)) (eC (.int 3))))) (aCons (eCB max2 (aCons (eC (.int 0)) (aCons (eOp subI (eVar 2) (eOp powI (eC (.int 10)) (eC (.int 18)))) aNil))) (aCons (eOp modI (eCB (one intD) (aCons (eOp addD (eOp addD (eOp mulI (eOp modI (eCB (one intD) (aCons (eVar 2) aNil)) (eC (.int 2147483629))) (eC (.int 48271))) (eOp mulI (eC (.int 60029)) (eVar 1))) (eC (.int 31))) aNil)) (eC (.int 2147483647))) aNil))
theorem w__law_pot (T : TX K mg) (TI : TBI T base) : FnN P w K mg base 1 T.a__law_pot T.fd__law_pot [Str.ofString "_law_script", Str.ofString "_law_index"] f__law_pot :=
  fn_new T.F__law_pot sc__law_pot (by decide) rfl (fun cdv A outer s H E hr => (pds_set (i := 2) sc__law_pot.nd rfl (by first | exact Or.inl rfl | exact Or.inr rfl) (pd_if (pdt_cmp opd_ltI (pd_var 1) (pd_callB cd_len (by rfl) T.m_len (by decide +kernel) (pda_cons (pd_var 0) pda_nil)) (nomark _)) (pd_callB cd_abs (by rfl) T.m_abs (by decide +kernel) (pda_cons (pd_ix ixd (fun _ _ => rfl) (pd_var 0) (pd_var 1)) pda_nil)) (pd_op opd_add (pd_op opd_mul pd_int (pd_var 1)) pd_int)))) (fun cdv A outer s H E hr => (pda_cons (pd_callB (cd_max2 rfl) (by rfl) T.m_max (by decide +kernel) (pda_cons pd_int (pda_cons (pd_op opd_sub (pd_var 2) (pd_op opd_pow pd_int pd_int)) pda_nil))) (pda_cons (pd_op opd_mod (pd_callTy cd_int (by rfl) T.m_int (by decide +kernel) (pda_cons (pd_op opd_add (pd_op opd_add (pd_op opd_mul (pd_op opd_mod (pd_callTy cd_int (by rfl) T.m_int (by decide +kernel) (pda_cons (pd_var 2) pda_nil)) pd_int) pd_int) (pd_op opd_mul pd_int (pd_var 1))) pd_int) pda_nil)) pd_int) pda_nil)))
abbrev f__law_draw : List PyData → Pt → Option (PyData × Pt) := drawF
theorem sc__law_draw : FnScope ["_law_pot_here", "_law_many", "_law_digit"] ["_law_pot_here", "_law_many"] (defScope s__law_draw) := ⟨rfl, rfl, rfl, by decide +kernel, rfl, by decide +kernel, by decide +kernel⟩
theorem w__law_draw (T : TX K mg) (TI : TBI T base) : FnD P w K mg base 1 T.a__law_draw T.fd__law_draw [Str.ofString "_law_pot_here", Str.ofString "_law_many"] f__law_draw := by
  have md := T.m_divmod
  have mi := T.m_int
  refine ok_g T.F__law_draw sc__law_draw (fun vs H Q E h => ?_) (fun cdv A outer s H vs Q E hr h => ?_)
  · obtain ⟨pp, p, G, ds, d, p', hl, c, r, e, q⟩ := h
    rw [r.length]
    exact hl
  · obtain ⟨pp, p, G, ds, d, p', hl, c, r, e, q⟩ := h
    obtain ⟨m, rfl, ok, ez⟩ := drawF_inv e
    cases ez
    obtain ⟨v, w1, rfl, r1, r2⟩ := rvl_two r
    obtain ⟨a, rfl, ha⟩ := rv_pot r1
    cases r2
    unfold drawOk at ok
    rw [Bool.and_eq_true, Bool.and_eq_true, Bool.and_eq_true] at ok
    have m0 : 0 < m := of_decide_eq_true ok.1.1.1
    have m1 : m < 1073741824 := of_decide_eq_true ok.1.1.2
    have b0 : 0 ≤ p.2 := of_decide_eq_true ok.1.2
    have b1 : p.2 < 2147483648 := of_decide_eq_true ok.2
    obtain ⟨hG, hH⟩ := c.pot a ha
    refine ⟨_, pss_cons (ps_if (pt_cmpR op_gt (pe_ix ix_list (pv 0) pe_int (fun _ _ => rfl)) pe_int (nomark _))
        (pss_cons (ps_asg (pe_callB call_divmod (by rfl) md (by decide +kernel) (pa_cons (pe_ix ix_list (pv 0) pe_int (fun _ _ => rfl)) (pa_cons (pv 1) pa_nil)))
            (pg_tup rfl (pgs_cons (pg_sub (pv 0) pe_int set_list) (pgs_cons (pg_name (i := 2) sc__law_draw.nd rfl (.inl rfl)) pgs_nil))))
          (pss_one (ps_ret (pv 2)))) pss_nil)
      (pss_cons (ps_asg (pe_op op_mod (pe_callTy call_int1 (by rfl) mi (by decide +kernel) (pa_cons (pe_op op_add (pe_op op_mulW (pe_ix ix_list (pv 0) pe_int (fun _ _ => rfl)) pe_int) pe_int) pa_nil)) pe_int) (pg_sub (pv 0) pe_int set_list))
      (pss_one (ps_ret (pe_op op_mod (pe_callTy call_int1 (by rfl) mi (by decide +kernel) (pa_cons (pe_op op_fdivW (pe_op op_mod (pe_callTy call_int1 (by rfl) mi (by decide +kernel) (pa_cons (pe_op op_mulW (pe_ix ix_list (pv 0) pe_int (fun _ _ => rfl)) (pe_ix ix_list (pv 0) pe_int (fun _ _ => rfl))) pa_nil)) pe_int) pe_int) pa_nil)) (pv 1))))), ?_⟩
    have hq : ∀ H1, Go pp p [] G H G H1 → Q (.int (drawV m p)) (upd H1 a (.lst [.int (drawS m p).1, .int (drawS m p).2])) := fun H1 g1 => q _ G _ (g1.trans (Go.pot g1.cf ha)) (.int _)
    have w0 : (p.2 * 39373 + 12227) % 2147483629 < 2147483629 := Int.emod_lt_of_pos _ (by decide)
    have w1 : 0 ≤ (p.2 * 39373 + 12227) % 2147483629 := Int.emod_nonneg _ (by decide)
    refine ⟨.ref a, rfl, a, [.int p.1, .int p.2], 0, .int p.1, rfl, rfl, .inl (.inl hH), rfl, p.1, 0, rfl, rfl, _, rfl, ite2 (fun hp => ?_) (fun hp => ?_)⟩
    · have hp' : 0 < p.1 := of_decide_eq_true hp
      have ev : drawV m p = p.1 % m := if_pos hp'
      have es : drawS m p = (p.1 / m, p.2) := if_pos hp'
      rw [ev, es] at hq
      refine ⟨.ref a, rfl, a, [.int p.1, .int p.2], 0, .int p.1, rfl, rfl, .inl (.inl hH), rfl, .int m, rfl, p.1, m, rfl, ⟨m0, m1⟩, fun t ht => ?_⟩
      have hat : a ≠ t := ne_of_none hH ht
      have hH1 : upd H t (.tup [.int (p.1 / m), .int (p.1 % m)]) a = some (.lst [.int p.1, .int p.2]) := by
        rw [upd_ne hat]
        exact hH
      refine ⟨t, [.int (p.1 / m), .int (p.1 % m)], rfl, .inl (.inl upd_same), rfl, .int (p.1 / m), [.int (p.1 % m)], rfl, .ref a, rfl, a, [.int p.1, .int p.2], 0, 0, rfl, rfl, hH1, rfl, .int (p.1 % m), [], rfl, rfl, .int (p.1 % m), rfl, ?_⟩
      exact hq _ (Go.hide c ht)
    · have hp' : ¬ 0 < p.1 := fun z => hp (decide_eq_true z)
      have ev : drawV m p = ((p.2 * 39373 + 12227) % 2147483629 * ((p.2 * 39373 + 12227) % 2147483629) % 2147483563 / 13) % m := if_neg hp'
      have es : drawS m p = (p.1, (p.2 * 39373 + 12227) % 2147483629) := if_neg hp'
      rw [ev, es] at hq
      generalize hb : (p.2 * 39373 + 12227) % 2147483629 = b at hq w0 w1
      refine ⟨.ref a, rfl, a, [.int p.1, .int p.2], 1, .int p.2, rfl, rfl, .inl (.inl hH), rfl, p.2, 39373, rfl, rfl, wide_mul (a := 32) (b := 32) (by omega) (by decide) (by decide) (by decide) (by decide), _, 12227, rfl, rfl, .inl ⟨_, rfl, _, 2147483629, rfl, rfl, (show (0 : Int) < 2147483629 by decide), ?_⟩⟩
      refine ⟨.ref a, rfl, a, [.int p.1, .int p.2], 1, 1, rfl, rfl, hH, rfl, ?_⟩
      have hH2 : upd H a (.lst ([V.int p.1, V.int p.2].set 1 (.int ((p.2 * 39373 + 12227) % 2147483629)))) a = some (.lst [.int p.1, .int b]) := by
        rw [upd_same, hb]
        rfl
      refine ⟨.ref a, rfl, a, [.int p.1, .int b], 1, .int b, rfl, rfl, .inl (.inl hH2), rfl, .ref a, rfl, a, [.int p.1, .int b], 1, .int b, rfl, rfl, .inl (.inl hH2), rfl, b, b, rfl, rfl, wide_mul (a := 32) (b := 32) (by omega) (by omega) (by decide) (by decide) (by decide), .inl ⟨_, rfl, _, 2147483563, rfl, rfl, (show (0 : Int) < 2147483563 by decide), _, 13, rfl, rfl, wide_div (b := 4) (by decide) (by decide) (by decide) (by decide), .inl ⟨_, rfl, .int m, rfl, _, m, rfl, rfl, m0, ?_⟩⟩⟩
      have := hq H (Go.refl c)
      rw [← hb]
      rw [← hb] at this
      exact this

theorem sc_is_integer : FnScope [Str.ofString "value", Str.ofString "least"] [Str.ofString "value", Str.ofString "least"] (defScope s_is_integer) := ⟨rfl, rfl, rfl, by decide +kernel, rfl, by decide +kernel, by decide +kernel⟩
def g_is_integer : SG := (sRet (eAndV (eUn (isiD "int") (eVar 0)) (eAndV (eNotV (eUn (isiD "bool") (eVar 0))) (eOp geI (eVar 0) (eVar 1)))))
def f_is_integer : List PyData → Pt → Option (PyData × Pt) := runF 2 g_is_integer
theorem w_is_integer (T : TX K mg) (TI : TBI T base) : FnD P w K mg base 1 T.a_is_integer T.fd_is_integer [Str.ofString "value", Str.ofString "least"] f_is_integer :=
  fn_of_body T.F_is_integer sc_is_integer (by decide) (fun cdv A outer s H E hr => (pds_one (pds_ret (pd_and (pd_isi (by rfl) T.m_isinstance (by rfl) T.m_int (by decide +kernel) (pd_var 0)) (pd_and (pd_not (pd_isi (by rfl) T.m_isinstance (by rfl) T.m_bool (by decide +kernel) (pd_var 0))) (pd_one (pd_cmp opd_geI (pd_var 0) (pd_var 1) (nomark _))))))))
theorem sc_is_name : FnScope [Str.ofString "value", Str.ofString "letter"] [Str.ofString "value"] (defScope s_is_name) := ⟨rfl, rfl, rfl, by decide +kernel, rfl, by decide +kernel, by decide +kernel⟩
def g_is_name : SG := (sSeq (sIf (bOr (bNot (asB (eUn (isiD "str") (eVar 0)))) (bNot (bChain leI leI (eC (.int 1)) (eCB (one lenD) (aCons (eVar 0) aNil)) (eC k_MOST_LETTERS)))) (sRet (eC (.bool false))) sNil) (sRet (eAndV (eOp (inD true) (eVar 0) (eC k_RESERVED)) (eCB (one allD) (aCons (eLc (iStrD (eVar 0)) (tName 1) bYes (eOp (inS false) (eVar 1) (eC k_LETTERS)) [1]) aNil)))))
def f_is_name : List PyData → Pt → Option (PyData × Pt) := runF 2 g_is_name
theorem w_is_name (T : TX K mg) (TI : TBI T base) : FnD P w K mg base 1 T.a_is_name T.fd_is_name [Str.ofString "value"] f_is_name :=
  fn_of_body T.F_is_name sc_is_name (by decide) (fun cdv A outer s H E hr => (pds_seq (pds_if (PW.pt (pdw_or (pdt_not (pdt_val (pd_isi (by rfl) T.m_isinstance (by rfl) T.m_str (by decide +kernel) (pd_var 0)))) (pdw_or1 (pdt_not (pdt_chain opd_leI opd_leI pd_int (pd_callB cd_len (by rfl) T.m_len (by decide +kernel) (pda_cons (pd_var 0) pda_nil)) (pd_cst (by rfl) T.k_MOST_LETTERS)))))) (pds_one (pds_ret pd_bl)) pds_nil) (pds_one (pds_ret (pd_and (pd_cmp (opd_notIn (hu_n hr 65 (by decide))) (pd_var 0) (pd_cst (by rfl) T.k_RESERVED) (by rfl)) (pd_one (pd_callB (cd_all rfl) (by rfl) T.m_all (by decide +kernel) (pda_cons (pd_lc (own := [(Str.ofString "letter", 1)]) rfl sc_is_name.nd (pdi_str (pd_var 0)) (blkOk_by (by first | decide +kernel | rfl)) (fun _ _ _ _ _ => (pdg_name (i := 1) sc_is_name.nd rfl (by first | exact Or.inl rfl | exact Or.inr rfl))) (fun _ _ _ _ _ => pdts_nil) (fun _ _ _ _ _ => (pd_cmp opd_inS (pd_var 1) (pd_cst (by rfl) T.k_LETTERS) (by rfl))) (by decide)) pda_nil))))))))
theorem sc_is_ascending : FnScope [Str.ofString "keys", Str.ofString "one", Str.ofString "other"] [Str.ofString "keys"] (defScope s_is_ascending) := ⟨rfl, rfl, rfl, by decide +kernel, rfl, by decide +kernel, by decide +kernel⟩
def g_is_ascending : SG := (sRet (eCB (one allD) (aCons (eLc (iZipD (aCons (eVar 0) (aCons (eSl (eVar 0) (oSome (eC (.int 1))) oNone) aNil))) (tTup 2 (tlCons (tName 1) (tlCons (tName 2) tlNil))) bYes (eOp ltS (eVar 1) (eVar 2)) [1, 2]) aNil)))
def f_is_ascending : List PyData → Pt → Option (PyData × Pt) := runF 3 g_is_ascending
theorem w_is_ascending (T : TX K mg) (TI : TBI T base) : FnD P w K mg base 1 T.a_is_ascending T.fd_is_ascending [Str.ofString "keys"] f_is_ascending :=
  fn_of_body T.F_is_ascending sc_is_ascending (by decide) (fun cdv A outer s H E hr => (pds_one (pds_ret (pd_callB (cd_all rfl) (by rfl) T.m_all (by decide +kernel) (pda_cons (pd_lc (own := [(Str.ofString "one", 1), (Str.ofString "other", 2)]) rfl sc_is_ascending.nd (pdi_zipK (by rfl) T.m_zip (pda_cons (pd_var 0) (pda_cons (pd_slice (pd_var 0) (pdo_some pd_int) pdo_none) pda_nil))) (blkOk_by (by first | decide +kernel | rfl)) (fun _ _ _ _ _ => (pdg_tup rfl (pdgs_cons (pdg_name (i := 1) sc_is_ascending.nd rfl (by first | exact Or.inl rfl | exact Or.inr rfl)) (pdgs_cons (pdg_name (i := 2) sc_is_ascending.nd rfl (by first | exact Or.inl rfl | exact Or.inr rfl)) pdgs_nil)))) (fun _ _ _ _ _ => pdts_nil) (fun _ _ _ _ _ => (pd_cmp opd_ltS (pd_var 1) (pd_var 2) (nomark _))) (by decide)) pda_nil)))))
theorem sc_is_passed : FnScope [Str.ofString "value", Str.ofString "many", Str.ofString "pair"] [Str.ofString "value", Str.ofString "many"] (defScope s_is_passed) := ⟨rfl, rfl, rfl, by decide +kernel, rfl, by decide +kernel, by decide +kernel⟩
def g_is_passed : SG := (sSeq (sIf (bOr (bNot (asB (eUn (isiD "tuple") (eVar 0)))) (asB (eOp neD (eCB (one lenD) (aCons (eVar 0) aNil)) (eVar 1)))) (sRet (eC (.bool false))) sNil) (sSeq (sFor (iOf (eVar 0)) (tName 2) (sSeq (sIf (bOr (bNot (asB (eUn (isiD "tuple") (eVar 2)))) (asB (eOp neD (eCB (one lenD) (aCons (eVar 2) aNil)) (eC (.int 2))))) (sRet (eC (.bool false))) sNil) (sIf (bOr (bNot (asB (eUn (isiD "bool") (eOp ixD (eVar 2) (eC (.int 0)))))) (bNot (asB (eCall f_is_integer (aCons (eOp ixD (eVar 2) (eC (.int 1))) (aCons (eC (.int 0)) aNil)))))) (sRet (eC (.bool false))) sNil))) (sRet (eC (.bool true)))))
def f_is_passed : List PyData → Pt → Option (PyData × Pt) := runF 3 g_is_passed
theorem w_is_passed (T : TX K mg) (TI : TBI T base) : FnD P w K mg base 2 T.a_is_passed T.fd_is_passed [Str.ofString "value", Str.ofString "many"] f_is_passed :=
  fn_of_body T.F_is_passed sc_is_passed (by decide) (fun cdv A outer s H E hr => (pds_seq (pds_if (PW.pt (pdw_or (pdt_not (pdt_val (pd_isi (by rfl) T.m_isinstance (by rfl) T.m_tuple (by decide +kernel) (pd_var 0)))) (pdw_or1 (pdt_cmp (opd_ne (hu_n hr 64 (by decide))) (pd_callB cd_len (by rfl) T.m_len (by decide +kernel) (pda_cons (pd_var 0) pda_nil)) (pd_var 1) (nomark _))))) (pds_one (pds_ret pd_bl)) pds_nil) (pds_seq (pds_for PassesOwn.never rfl (pdi_data (pd_var 0)) (pdg_name (i := 2) sc_is_passed.nd rfl (by first | exact Or.inl rfl | exact Or.inr rfl)) (pds_seq (pds_if (PW.pt (pdw_or (pdt_not (pdt_val (pd_isi (by rfl) T.m_isinstance (by rfl) T.m_tuple (by decide +kernel) (pd_var 2)))) (pdw_or1 (pdt_cmp (opd_ne (hu_n hr 64 (by decide))) (pd_callB cd_len (by rfl) T.m_len (by decide +kernel) (pda_cons (pd_var 2) pda_nil)) pd_int (nomark _))))) (pds_one (pds_ret pd_bl)) pds_nil) (pds_one (pds_if (PW.pt (pdw_or (pdt_not (pdt_val (pd_isi (by rfl) T.m_isinstance (by rfl) T.m_bool (by decide +kernel) (pd_ix ixd (fun _ _ => rfl) (pd_var 2) pd_int)))) (pdw_or1 (pdt_not (pdt_val (pd_call (w_is_integer T TI) (hr.mono (by decide)) (by rfl) T.g_is_integer T.F_is_integer.kp T.b_is_integer (pda_cons (pd_ix ixd (fun _ _ => rfl) (pd_var 2) pd_int) (pda_cons pd_int pda_nil)) (aCons_l (aCons_l aNil_l)))))))) (pds_one (pds_ret pd_bl)) pds_nil)))) (pds_one (pds_ret pd_bl)))))
theorem sc_are_pairs : FnScope [Str.ofString "value", Str.ofString "pair"] [Str.ofString "value"] (defScope s_are_pairs) := ⟨rfl, rfl, rfl, by decide +kernel, rfl, by decide +kernel, by decide +kernel⟩
def g_are_pairs : SG := (sSeq (sIf (bNot (asB (eUn (isiD "tuple") (eVar 0)))) (sRet (eC (.bool false))) sNil) (sSeq (sFor (iOf (eVar 0)) (tName 1) (sIf (bOr (bNot (asB (eUn (isiD "tuple") (eVar 1)))) (bOr (asB (eOp neD (eCB (one lenD) (aCons (eVar 1) aNil)) (eC (.int 2)))) (bOr (bNot (asB (eCall f_is_name (aCons (eOp ixD (eVar 1) (eC (.int 0))) aNil)))) (bNot (asB (eCall f_is_integer (aCons (eOp ixD (eVar 1) (eC (.int 1))) (aCons (eC (.int 1)) aNil)))))))) (sRet (eC (.bool false))) sNil)) (sRet (eCall f_is_ascending (aCons (eLc (iOf (eVar 0)) (tName 1) bYes (eOp ixD (eVar 1) (eC (.int 0))) [1]) aNil)))))
def f_are_pairs : List PyData → Pt → Option (PyData × Pt) := runF 2 g_are_pairs
theorem w_are_pairs (T : TX K mg) (TI : TBI T base) : FnD P w K mg base 2 T.a_are_pairs T.fd_are_pairs [Str.ofString "value"] f_are_pairs :=
  fn_of_body T.F_are_pairs sc_are_pairs (by decide) (fun cdv A outer s H E hr => (pds_seq (pds_if (pdt_not (pdt_val (pd_isi (by rfl) T.m_isinstance (by rfl) T.m_tuple (by decide +kernel) (pd_var 0)))) (pds_one (pds_ret pd_bl)) pds_nil) (pds_seq (pds_for PassesOwn.never rfl (pdi_data (pd_var 0)) (pdg_name (i := 1) sc_are_pairs.nd rfl (by first | exact Or.inl rfl | exact Or.inr rfl)) (pds_one (pds_if (PW.pt (pdw_or (pdt_not (pdt_val (pd_isi (by rfl) T.m_isinstance (by rfl) T.m_tuple (by decide +kernel) (pd_var 1)))) (pdw_or (pdt_cmp (opd_ne (hu_n hr 64 (by decide))) (pd_callB cd_len (by rfl) T.m_len (by decide +kernel) (pda_cons (pd_var 1) pda_nil)) pd_int (nomark _)) (pdw_or (pdt_not (pdt_val (pd_call (w_is_name T TI) (hr.mono (by decide)) (by rfl) T.g_is_name T.F_is_name.kp T.b_is_name (pda_cons (pd_ix ixd (fun _ _ => rfl) (pd_var 1) pd_int) pda_nil) (aCons_l aNil_l)))) (pdw_or1 (pdt_not (pdt_val (pd_call (w_is_integer T TI) (hr.mono (by decide)) (by rfl) T.g_is_integer T.F_is_integer.kp T.b_is_integer (pda_cons (pd_ix ixd (fun _ _ => rfl) (pd_var 1) pd_int) (pda_cons pd_int pda_nil)) (aCons_l (aCons_l aNil_l)))))))))) (pds_one (pds_ret pd_bl)) pds_nil))) (pds_one (pds_ret (pd_call (w_is_ascending T TI) (hr.mono (by decide)) (by rfl) T.g_is_ascending T.F_is_ascending.kp T.b_is_ascending (pda_cons (pd_lc (own := [(Str.ofString "pair", 1)]) rfl sc_are_pairs.nd (pdi_data (pd_var 0)) (blkOk_by (by first | decide +kernel | rfl)) (fun _ _ _ _ _ => (pdg_name (i := 1) sc_are_pairs.nd rfl (by first | exact Or.inl rfl | exact Or.inr rfl))) (fun _ _ _ _ _ => pdts_nil) (fun _ _ _ _ _ => (pd_ix ixd (fun _ _ => rfl) (pd_var 1) pd_int)) (by decide)) pda_nil) (aCons_l aNil_l)))))))
theorem sc_is_context : FnScope [Str.ofString "callbacks", Str.ofString "value", Str.ofString "passed", Str.ofString "handlers", Str.ofString "sizes", Str.ofString "behind"] [Str.ofString "callbacks", Str.ofString "value"] (defScope s_is_context) := ⟨rfl, rfl, rfl, by decide +kernel, rfl, by decide +kernel, by decide +kernel⟩
def g_is_context : SG := (sSeq (sIf (bOr (bNot (asB (eUn (isiD "tuple") (eVar 1)))) (asB (eOp neD (eCB (one lenD) (aCons (eVar 1) aNil)) (eC (.int 4))))) (sRet (eC (.bool false))) sNil) (sSeq (sAsg (tTup 4 (tlCons (tName 2) (tlCons (tName 3) (tlCons (tName 4) (tlCons (tName 5) tlNil))))) (eVar 1)) (sSeq (sIf (bOr (bNot (asB (eCall f_is_passed (aCons (eVar 2) (aCons (eCB (one lenD) (aCons (eVar 0) aNil)) aNil))))) (bOr (bNot (asB (eCall f_are_pairs (aCons (eVar 3) aNil)))) (asB (eOp gtI (eCB (one lenD) (aCons (eVar 3) aNil)) (eC k_MOST_HANDLERS))))) (sRet (eC (.bool false))) sNil) (sRet (eAndV (eCall f_are_pairs (aCons (eVar 4) aNil)) (eCall f_is_integer (aCons (eVar 5) (aCons (eC (.int 0)) aNil))))))))
def f_is_context : List PyData → Pt → Option (PyData × Pt) := runF 6 g_is_context
theorem w_is_context (T : TX K mg) (TI : TBI T base) : FnD P w K mg base 3 T.a_is_context T.fd_is_context [Str.ofString "callbacks", Str.ofString "value"] f_is_context :=
  fn_of_body T.F_is_context sc_is_context (by decide) (fun cdv A outer s H E hr => (pds_seq (pds_if (PW.pt (pdw_or (pdt_not (pdt_val (pd_isi (by rfl) T.m_isinstance (by rfl) T.m_tuple (by decide +kernel) (pd_var 1)))) (pdw_or1 (pdt_cmp (opd_ne (hu_n hr 64 (by decide))) (pd_callB cd_len (by rfl) T.m_len (by decide +kernel) (pda_cons (pd_var 1) pda_nil)) pd_int (nomark _))))) (pds_one (pds_ret pd_bl)) pds_nil) (pds_seq (pds_asg (pdg_tup rfl (pdgs_cons (pdg_name (i := 2) sc_is_context.nd rfl (by first | exact Or.inl rfl | exact Or.inr rfl)) (pdgs_cons (pdg_name (i := 3) sc_is_context.nd rfl (by first | exact Or.inl rfl | exact Or.inr rfl)) (pdgs_cons (pdg_name (i := 4) sc_is_context.nd rfl (by first | exact Or.inl rfl | exact Or.inr rfl)) (pdgs_cons (pdg_name (i := 5) sc_is_context.nd rfl (by first | exact Or.inl rfl | exact Or.inr rfl)) pdgs_nil))))) (pd_var 1)) (pds_seq (pds_if (PW.pt (pdw_or (pdt_not (pdt_val (pd_call (w_is_passed T TI) (hr.mono (by decide)) (by rfl) T.g_is_passed T.F_is_passed.kp T.b_is_passed (pda_cons (pd_var 2) (pda_cons (pd_callB cd_len (by rfl) T.m_len (by decide +kernel) (pda_cons (pd_var 0) pda_nil)) pda_nil)) (aCons_l (aCons_l aNil_l))))) (pdw_or (pdt_not (pdt_val (pd_call (w_are_pairs T TI) (hr.mono (by decide)) (by rfl) T.g_are_pairs T.F_are_pairs.kp T.b_are_pairs (pda_cons (pd_var 3) pda_nil) (aCons_l aNil_l)))) (pdw_or1 (pdt_cmp opd_gtI (pd_callB cd_len (by rfl) T.m_len (by decide +kernel) (pda_cons (pd_var 3) pda_nil)) (pd_cst (by rfl) T.k_MOST_HANDLERS) (nomark _)))))) (pds_one (pds_ret pd_bl)) pds_nil) (pds_one (pds_ret (pd_and (pd_call (w_are_pairs T TI) (hr.mono (by decide)) (by rfl) T.g_are_pairs T.F_are_pairs.kp T.b_are_pairs (pda_cons (pd_var 4) pda_nil) (aCons_l aNil_l)) (pd_one (pd_call (w_is_integer T TI) (hr.mono (by decide)) (by rfl) T.g_is_integer T.F_is_integer.kp T.b_is_integer (pda_cons (pd_var 5) (pda_cons pd_int pda_nil)) (aCons_l (aCons_l aNil_l)))))))))))
theorem sc__law_pick : FnScope [Str.ofString "_law_pot_here", Str.ofString "_law_some"] [Str.ofString "_law_pot_here", Str.ofString "_law_some"] (defScope s__law_pick) := ⟨rfl, rfl, rfl, by decide +kernel, rfl, by decide +kernel, by decide +kernel⟩
def g__law_pick : SG := (sRet (eOp ixD (eVar 1) (eCall f__law_draw (aCons (eVar 0) (aCons (eCB (one lenD) (aCons (eVar 1) aNil)) aNil)))))
def f__law_pick : List PyData → Pt → Option (PyData × Pt) := runF 2 g__law_pick
theorem w__law_pick (T : TX K mg) (TI : TBI T base) : FnD P w K mg base 2 T.a__law_pick T.fd__law_pick [Str.ofString "_law_pot_here", Str.ofString "_law_some"] f__law_pick :=
  fn_of_body T.F__law_pick sc__law_pick (by decide) (fun cdv A outer s H E hr => (pds_one (pds_ret (pd_ix ixd (fun _ _ => rfl) (pd_var 1) (pd_call (w__law_draw T TI) (hr.mono (by decide)) (by rfl) T.g__law_draw T.F__law_draw.kp T.b__law_draw (pda_cons (pd_var 0) (pda_cons (pd_callB cd_len (by rfl) T.m_len (by decide +kernel) (pda_cons (pd_var 1) pda_nil)) pda_nil)) (aCons_l (aCons_l aNil_l)))))))
theorem sc__law_words : FnScope [Str.ofString "_law_found"] [] (defScope s__law_words) := ⟨rfl, rfl, rfl, by decide +kernel, rfl, by decide +kernel, by decide +kernel⟩
def g__law_words : SG := (sSeq (sSet 0 (eC (.str (Str.ofString "call do either else end endless form frame function handler house kind limit loop most now or returns")))) (sRet (eOp splitD (eOp addD (eVar 0) (eC (.str (Str.ofString " room shut size stop take task times")))) (eC (.str (Str.ofString " "))))))
def f__law_words : List PyData → Pt → Option (PyData × Pt) := runF 1 g__law_words
theorem w__law_words (T : TX K mg) (TI : TBI T base) : FnD P w K mg base 1 T.a__law_words T.fd__law_words [] f__law_words :=
  fn_of_body T.F__law_words sc__law_words (by decide) (fun cdv A outer s H E hr => (pds_seq (pds_set (i := 0) sc__law_words.nd rfl (by first | exact Or.inl rfl | exact Or.inr rfl) pd_str) (pds_one (pds_ret (pd_split (pd_op opd_add (pd_var 0) pd_str) pd_str)))))
theorem sc__law_context : FnScope [Str.ofString "_law_pot_here", Str.ofString "_law_calls", Str.ofString "_law_passed", Str.ofString "_law_names", Str.ofString "_law_handlers", Str.ofString "_law_frames", Str.ofString "_law_sizes", Str.ofString "_law_name", Str.ofString "_law_spot", Str.ofString "_law_frame"] [Str.ofString "_law_pot_here", Str.ofString "_law_calls"] (defScope s__law_context) := ⟨rfl, rfl, rfl, by decide +kernel, rfl, by decide +kernel, by decide +kernel⟩
def g__law_context : SG := (sSeq (sSet 2 (eCB (one tupleD) (aCons (eLc (iOf (eVar 1)) (tName 8) bYes (eTup (aCons (eOp eqD (eCall f__law_draw (aCons (eVar 0) (aCons (eC (.int 2)) aNil))) (eC (.int 0))) (aCons (eCall f__law_pick (aCons (eVar 0) (aCons (eLst (aCons (eC (.int 0)) (aCons (eC (.int 1)) (aCons (eC (.int 5)) (aCons (eOp powI (eC (.int 10)) (eC (.int 12))) aNil))))) aNil))) aNil))) [8]) aNil))) (sSeq (sSet 3 (eLc (iOf (eLst (aCons (eC (.str (Str.ofString "t"))) (aCons (eC (.str (Str.ofString "u"))) (aCons (eC (.str (Str.ofString "v"))) (aCons (eC (.str (Str.ofString "w"))) (aCons (eC (.str (Str.ofString "x"))) aNil))))))) (tName 7) (asB (eOp eqD (eCall f__law_draw (aCons (eVar 0) (aCons (eC (.int 2)) aNil))) (eC (.int 0)))) (eVar 7) [7])) (sSeq (sSet 4 (eCB (one tupleD) (aCons (eLc (iOf (eVar 3)) (tName 7) bYes (eTup (aCons (eVar 7) (aCons (eCall f__law_pick (aCons (eVar 0) (aCons (eLst (aCons (eC (.int 1)) (aCons (eC (.int 7)) (aCons (eOp powI (eC (.int 10)) (eC (.int 25))) aNil)))) aNil))) aNil))) [7]) aNil))) (sSeq (sSet 5 (eSl (eLst (aCons (eC (.str (Str.ofString "a"))) (aCons (eC (.str (Str.ofString "b"))) (aCons (eC (.str (Str.ofString "heap"))) (aCons (eC (.str (Str.ofString "z"))) aNil))))) oNone (oSome (eOp addD (eC (.int 3)) (eCall f__law_draw (aCons (eVar 0) (aCons (eC (.int 2)) aNil))))))) (sSeq (sSet 6 (eCB (one tupleD) (aCons (eLc (iOf (eVar 5)) (tName 9) bYes (eTup (aCons (eVar 9) (aCons (eCall f__law_pick (aCons (eVar 0) (aCons (eLst (aCons (eC (.int 1)) (aCons (eC (.int 2)) (aCons (eC (.int 3)) (aCons (eC (.int 50)) (aCons (eOp powI (eC (.int 10)) (eC (.int 20))) aNil)))))) aNil))) aNil))) [9]) aNil))) (sRet (eTup (aCons (eVar 2) (aCons (eVar 4) (aCons (eVar 6) (aCons (eCall f__law_pick (aCons (eVar 0) (aCons (eLst (aCons (eC (.int 0)) (aCons (eC (.int 1)) (aCons (eC (.int 9)) (aCons (eOp powI (eC (.int 10)) (eC (.int 22))) aNil))))) aNil))) aNil)))))))))))
def f__law_context : List PyData → Pt → Option (PyData × Pt) := runF 10 g__law_context
theorem w__law_context (T : TX K mg) (TI : TBI T base) : FnD P w K mg base 3 T.a__law_context T.fd__law_context [Str.ofString "_law_pot_here", Str.ofString "_law_calls"] f__law_context :=
  fn_of_body T.F__law_context sc__law_context (by decide) (fun cdv A outer s H E hr => (pds_seq (pds_set (i := 2) sc__law_context.nd rfl (by first | exact Or.inl rfl | exact Or.inr rfl) (pd_callTy cd_tuple (by rfl) T.m_tuple (by decide +kernel) (pda_cons (pd_lc (own := [(Str.ofString "_law_spot", 8)]) rfl sc__law_context.nd (pdi_data (pd_var 1)) (blkOk_by (by first | decide +kernel | rfl)) (fun _ _ _ _ _ => (pdg_name (i := 8) sc__law_context.nd rfl (by first | exact Or.inl rfl | exact Or.inr rfl))) (fun _ _ _ _ _ => pdts_nil) (fun _ _ _ _ _ => (pd_tup (pda_cons (pd_cmp (opd_eq (hu_n hr 64 (by decide))) (pd_call (w__law_draw T TI) (hr.mono (by decide)) (by rfl) T.g__law_draw T.F__law_draw.kp T.b__law_draw (pda_cons (pd_var 0) (pda_cons pd_int pda_nil)) (aCons_l (aCons_l aNil_l))) pd_int (nomark _)) (pda_cons (pd_call (w__law_pick T TI) (hr.mono (by decide)) (by rfl) T.g__law_pick T.F__law_pick.kp T.b__law_pick (pda_cons (pd_var 0) (pda_cons (pd_lst (pda_cons pd_int (pda_cons pd_int (pda_cons pd_int (pda_cons (pd_op opd_pow pd_int pd_int) pda_nil))))) pda_nil)) (aCons_l (aCons_l aNil_l))) pda_nil)))) (by decide)) pda_nil))) (pds_seq (pds_setLc (i := 3) (own := [(Str.ofString "_law_name", 7)]) rfl sc__law_context.nd rfl rfl (sw_true rfl rfl rfl (by decide +kernel)) (pdi_data (pd_lst (pda_cons pd_str (pda_cons pd_str (pda_cons pd_str (pda_cons pd_str (pda_cons pd_str pda_nil))))))) (blkOk_by (by first | decide +kernel | rfl)) (fun _ _ _ _ _ => (pdg_name (i := 7) sc__law_context.nd rfl (by first | exact Or.inl rfl | exact Or.inr rfl))) (fun _ _ _ _ _ => (pdts_one (pdt_cmp (opd_eq (hu_n hr 64 (by decide))) (pd_call (w__law_draw T TI) (hr.mono (by decide)) (by rfl) T.g__law_draw T.F__law_draw.kp T.b__law_draw (pda_cons (pd_var 0) (pda_cons pd_int pda_nil)) (aCons_l (aCons_l aNil_l))) pd_int (nomark _)))) (fun _ _ _ _ _ => (pd_var 7)) (by decide)) (pds_seq (pds_set (i := 4) sc__law_context.nd rfl (by first | exact Or.inl rfl | exact Or.inr rfl) (pd_callTy cd_tuple (by rfl) T.m_tuple (by decide +kernel) (pda_cons (pd_lc (own := [(Str.ofString "_law_name", 7)]) rfl sc__law_context.nd (pdi_data (pd_var 3)) (blkOk_by (by first | decide +kernel | rfl)) (fun _ _ _ _ _ => (pdg_name (i := 7) sc__law_context.nd rfl (by first | exact Or.inl rfl | exact Or.inr rfl))) (fun _ _ _ _ _ => pdts_nil) (fun _ _ _ _ _ => (pd_tup (pda_cons (pd_var 7) (pda_cons (pd_call (w__law_pick T TI) (hr.mono (by decide)) (by rfl) T.g__law_pick T.F__law_pick.kp T.b__law_pick (pda_cons (pd_var 0) (pda_cons (pd_lst (pda_cons pd_int (pda_cons pd_int (pda_cons (pd_op opd_pow pd_int pd_int) pda_nil)))) pda_nil)) (aCons_l (aCons_l aNil_l))) pda_nil)))) (by decide)) pda_nil))) (pds_seq (pds_set (i := 5) sc__law_context.nd rfl (by first | exact Or.inl rfl | exact Or.inr rfl) (pd_slice (pd_lst (pda_cons pd_str (pda_cons pd_str (pda_cons pd_str (pda_cons pd_str pda_nil))))) pdo_none (pdo_some (pd_op opd_add pd_int (pd_call (w__law_draw T TI) (hr.mono (by decide)) (by rfl) T.g__law_draw T.F__law_draw.kp T.b__law_draw (pda_cons (pd_var 0) (pda_cons pd_int pda_nil)) (aCons_l (aCons_l aNil_l))))))) (pds_seq (pds_set (i := 6) sc__law_context.nd rfl (by first | exact Or.inl rfl | exact Or.inr rfl) (pd_callTy cd_tuple (by rfl) T.m_tuple (by decide +kernel) (pda_cons (pd_lc (own := [(Str.ofString "_law_frame", 9)]) rfl sc__law_context.nd (pdi_data (pd_var 5)) (blkOk_by (by first | decide +kernel | rfl)) (fun _ _ _ _ _ => (pdg_name (i := 9) sc__law_context.nd rfl (by first | exact Or.inl rfl | exact Or.inr rfl))) (fun _ _ _ _ _ => pdts_nil) (fun _ _ _ _ _ => (pd_tup (pda_cons (pd_var 9) (pda_cons (pd_call (w__law_pick T TI) (hr.mono (by decide)) (by rfl) T.g__law_pick T.F__law_pick.kp T.b__law_pick (pda_cons (pd_var 0) (pda_cons (pd_lst (pda_cons pd_int (pda_cons pd_int (pda_cons pd_int (pda_cons pd_int (pda_cons (pd_op opd_pow pd_int pd_int) pda_nil)))))) pda_nil)) (aCons_l (aCons_l aNil_l))) pda_nil)))) (by decide)) pda_nil))) (pds_one (pds_ret (pd_tup (pda_cons (pd_var 2) (pda_cons (pd_var 4) (pda_cons (pd_var 6) (pda_cons (pd_call (w__law_pick T TI) (hr.mono (by decide)) (by rfl) T.g__law_pick T.F__law_pick.kp T.b__law_pick (pda_cons (pd_var 0) (pda_cons (pd_lst (pda_cons pd_int (pda_cons pd_int (pda_cons pd_int (pda_cons (pd_op opd_pow pd_int pd_int) pda_nil))))) pda_nil)) (aCons_l (aCons_l aNil_l))) pda_nil)))))))))))))
theorem sc__law_whole : FnScope [Str.ofString "_law_thing", Str.ofString "_law_least"] [Str.ofString "_law_thing", Str.ofString "_law_least"] (defScope s__law_whole) := ⟨rfl, rfl, rfl, by decide +kernel, rfl, by decide +kernel, by decide +kernel⟩
def g__law_whole : SG := (sRet (eAndV (eUn (isiD "int") (eVar 0)) (eAndV (eNotV (eUn (isiD "bool") (eVar 0))) (eOp geI (eVar 0) (eVar 1)))))
def f__law_whole : List PyData → Pt → Option (PyData × Pt) := runF 2 g__law_whole
theorem w__law_whole (T : TX K mg) (TI : TBI T base) : FnD P w K mg base 1 T.a__law_whole T.fd__law_whole [Str.ofString "_law_thing", Str.ofString "_law_least"] f__law_whole :=
  fn_of_body T.F__law_whole sc__law_whole (by decide) (fun cdv A outer s H E hr => (pds_one (pds_ret (pd_and (pd_isi (by rfl) T.m_isinstance (by rfl) T.m_int (by decide +kernel) (pd_var 0)) (pd_and (pd_not (pd_isi (by rfl) T.m_isinstance (by rfl) T.m_bool (by decide +kernel) (pd_var 0))) (pd_one (pd_cmp opd_geI (pd_var 0) (pd_var 1) (nomark _))))))))
theorem sc__law_is_name : FnScope [Str.ofString "_law_thing", Str.ofString "_law_letter"] [Str.ofString "_law_thing"] (defScope s__law_is_name) := ⟨rfl, rfl, rfl, by decide +kernel, rfl, by decide +kernel, by decide +kernel⟩
def g__law_is_name : SG := (sSeq (sIf (bOr (bNot (asB (eUn (isiD "str") (eVar 0)))) (bOr (bNot (bChain leI leI (eC (.int 1)) (eCB (one lenD) (aCons (eVar 0) aNil)) (eC (.int 8)))) (asB (eOp (inD false) (eVar 0) (eCall f__law_words aNil))))) (sRet (eC (.bool false))) sNil) (sRet (eCB (one allD) (aCons (eLc (iStrD (eVar 0)) (tName 1) bYes (eOp (inS false) (eVar 1) (eC (.str (Str.ofString "abcdefghijklmnopqrstuvwxyz")))) [1]) aNil))))
def f__law_is_name : List PyData → Pt → Option (PyData × Pt) := runF 2 g__law_is_name
theorem w__law_is_name (T : TX K mg) (TI : TBI T base) : FnD P w K mg base 2 T.a__law_is_name T.fd__law_is_name [Str.ofString "_law_thing"] f__law_is_name :=
  fn_of_body T.F__law_is_name sc__law_is_name (by decide) (fun cdv A outer s H E hr => (pds_seq (pds_if (PW.pt (pdw_or (pdt_not (pdt_val (pd_isi (by rfl) T.m_isinstance (by rfl) T.m_str (by decide +kernel) (pd_var 0)))) (pdw_or (pdt_not (pdt_chain opd_leI opd_leI pd_int (pd_callB cd_len (by rfl) T.m_len (by decide +kernel) (pda_cons (pd_var 0) pda_nil)) pd_int)) (pdw_or1 (pdt_cmp (opd_in (hu_n hr 65 (by decide))) (pd_var 0) (pd_call0 (w__law_words T TI) (hr.mono (by decide)) (by rfl) T.g__law_words T.F__law_words.kp T.b__law_words) (by rfl)))))) (pds_one (pds_ret pd_bl)) pds_nil) (pds_one (pds_ret (pd_callB (cd_all rfl) (by rfl) T.m_all (by decide +kernel) (pda_cons (pd_lc (own := [(Str.ofString "_law_letter", 1)]) rfl sc__law_is_name.nd (pdi_str (pd_var 0)) (blkOk_by (by first | decide +kernel | rfl)) (fun _ _ _ _ _ => (pdg_name (i := 1) sc__law_is_name.nd rfl (by first | exact Or.inl rfl | exact Or.inr rfl))) (fun _ _ _ _ _ => pdts_nil) (fun _ _ _ _ _ => (pd_cmp opd_inS (pd_var 1) pd_str (by rfl))) (by decide)) pda_nil))))))
theorem sc__law_is_pair : FnScope [Str.ofString "_law_thing"] [Str.ofString "_law_thing"] (defScope s__law_is_pair) := ⟨rfl, rfl, rfl, by decide +kernel, rfl, by decide +kernel, by decide +kernel⟩
def g__law_is_pair : SG := (sRet (eAndV (eUn (isiD "tuple") (eVar 0)) (eOp eqD (eCB (one lenD) (aCons (eVar 0) aNil)) (eC (.int 2)))))
def f__law_is_pair : List PyData → Pt → Option (PyData × Pt) := runF 1 g__law_is_pair
theorem w__law_is_pair (T : TX K mg) (TI : TBI T base) : FnD P w K mg base 1 T.a__law_is_pair T.fd__law_is_pair [Str.ofString "_law_thing"] f__law_is_pair :=
  fn_of_body T.F__law_is_pair sc__law_is_pair (by decide) (fun cdv A outer s H E hr => (pds_one (pds_ret (pd_and (pd_isi (by rfl) T.m_isinstance (by rfl) T.m_tuple (by decide +kernel) (pd_var 0)) (pd_one (pd_cmp (opd_eq (hu_n hr 64 (by decide))) (pd_callB cd_len (by rfl) T.m_len (by decide +kernel) (pda_cons (pd_var 0) pda_nil)) pd_int (nomark _)))))))
theorem sc__law_are_pairs : FnScope [Str.ofString "_law_thing", Str.ofString "_law_names", Str.ofString "_law_one"] [Str.ofString "_law_thing"] (defScope s__law_are_pairs) := ⟨rfl, rfl, rfl, by decide +kernel, rfl, by decide +kernel, by decide +kernel⟩
def g__law_are_pairs : SG := (sSeq (sIf (bOr (bNot (asB (eUn (isiD "tuple") (eVar 0)))) (bNot (asB (eCB (one allD) (aCons (eLc (iOf (eVar 0)) (tName 2) bYes (eCall f__law_is_pair (aCons (eVar 2) aNil)) [2]) aNil))))) (sRet (eC (.bool false))) sNil) (sSeq (sIf (bNot (asB (eCB (one allD) (aCons (eLc (iOf (eVar 0)) (tName 2) bYes (eAndV (eCall f__law_is_name (aCons (eOp ixD (eVar 2) (eC (.int 0))) aNil)) (eCall f__law_whole (aCons (eOp ixD (eVar 2) (eC (.int 1))) (aCons (eC (.int 1)) aNil)))) [2]) aNil)))) (sRet (eC (.bool false))) sNil) (sSeq (sSet 1 (eLc (iOf (eVar 0)) (tName 2) bYes (eOp ixD (eVar 2) (eC (.int 0))) [2])) (sRet (eAndV (eOp eqD (eVar 1) (eCB (one sortSD) (aCons (eVar 1) aNil))) (eOp eqD (eUn lenSetD (eVar 1)) (eCB (one lenD) (aCons (eVar 1) aNil))))))))
def f__law_are_pairs : List PyData → Pt → Option (PyData × Pt) := runF 3 g__law_are_pairs
theorem w__law_are_pairs (T : TX K mg) (TI : TBI T base) : FnD P w K mg base 3 T.a__law_are_pairs T.fd__law_are_pairs [Str.ofString "_law_thing"] f__law_are_pairs :=
  fn_of_body T.F__law_are_pairs sc__law_are_pairs (by decide) (fun cdv A outer s H E hr => (pds_seq (pds_if (PW.pt (pdw_or (pdt_not (pdt_val (pd_isi (by rfl) T.m_isinstance (by rfl) T.m_tuple (by decide +kernel) (pd_var 0)))) (pdw_or1 (pdt_not (pdt_val (pd_callB (cd_all rfl) (by rfl) T.m_all (by decide +kernel) (pda_cons (pd_lc (own := [(Str.ofString "_law_one", 2)]) rfl sc__law_are_pairs.nd (pdi_data (pd_var 0)) (blkOk_by (by first | decide +kernel | rfl)) (fun _ _ _ _ _ => (pdg_name (i := 2) sc__law_are_pairs.nd rfl (by first | exact Or.inl rfl | exact Or.inr rfl))) (fun _ _ _ _ _ => pdts_nil) (fun _ _ _ _ _ => (pd_call (w__law_is_pair T TI) (hr.mono (by decide)) (by rfl) T.g__law_is_pair T.F__law_is_pair.kp T.b__law_is_pair (pda_cons (pd_var 2) pda_nil) (aCons_l aNil_l))) (by decide)) pda_nil))))))) (pds_one (pds_ret pd_bl)) pds_nil) (pds_seq (pds_if (pdt_not (pdt_val (pd_callB (cd_all rfl) (by rfl) T.m_all (by decide +kernel) (pda_cons (pd_lc (own := [(Str.ofString "_law_one", 2)]) rfl sc__law_are_pairs.nd (pdi_data (pd_var 0)) (blkOk_by (by first | decide +kernel | rfl)) (fun _ _ _ _ _ => (pdg_name (i := 2) sc__law_are_pairs.nd rfl (by first | exact Or.inl rfl | exact Or.inr rfl))) (fun _ _ _ _ _ => pdts_nil) (fun _ _ _ _ _ => (pd_and (pd_call (w__law_is_name T TI) (hr.mono (by decide)) (by rfl) T.g__law_is_name T.F__law_is_name.kp T.b__law_is_name (pda_cons (pd_ix ixd (fun _ _ => rfl) (pd_var 2) pd_int) pda_nil) (aCons_l aNil_l)) (pd_one (pd_call (w__law_whole T TI) (hr.mono (by decide)) (by rfl) T.g__law_whole T.F__law_whole.kp T.b__law_whole (pda_cons (pd_ix ixd (fun _ _ => rfl) (pd_var 2) pd_int) (pda_cons pd_int pda_nil)) (aCons_l (aCons_l aNil_l)))))) (by decide)) pda_nil)))) (pds_one (pds_ret pd_bl)) pds_nil) (pds_seq (pds_setLc (i := 1) (own := [(Str.ofString "_law_one", 2)]) rfl sc__law_are_pairs.nd rfl rfl (sw_true rfl rfl rfl (by decide +kernel)) (pdi_data (pd_var 0)) (blkOk_by (by first | decide +kernel | rfl)) (fun _ _ _ _ _ => (pdg_name (i := 2) sc__law_are_pairs.nd rfl (by first | exact Or.inl rfl | exact Or.inr rfl))) (fun _ _ _ _ _ => pdts_nil) (fun _ _ _ _ _ => (pd_ix ixd (fun _ _ => rfl) (pd_var 2) pd_int)) (by decide)) (pds_one (pds_ret (pd_and (pd_cmp (opd_eq (hu_n hr 64 (by decide))) (pd_var 1) (pd_callB cd_sortS (by rfl) T.m_sorted (by decide +kernel) (pda_cons (pd_var 1) pda_nil)) (nomark _)) (pd_one (pd_cmp (opd_eq (hu_n hr 64 (by decide))) (pd_lenSet rfl (by rfl) T.m_len (by rfl) T.m_set (pd_var 1)) (pd_callB cd_len (by rfl) T.m_len (by decide +kernel) (pda_cons (pd_var 1) pda_nil)) (nomark _))))))))))
theorem sc__law_is_context : FnScope [Str.ofString "_law_calls", Str.ofString "_law_thing", Str.ofString "_law_one"] [Str.ofString "_law_calls", Str.ofString "_law_thing"] (defScope s__law_is_context) := ⟨rfl, rfl, rfl, by decide +kernel, rfl, by decide +kernel, by decide +kernel⟩
def g__law_is_context : SG := (sSeq (sIf (bOr (bNot (asB (eUn (isiD "tuple") (eVar 1)))) (bOr (asB (eOp neD (eCB (one lenD) (aCons (eVar 1) aNil)) (eC (.int 4)))) (bNot (asB (eUn (isiD "tuple") (eOp ixD (eVar 1) (eC (.int 0)))))))) (sRet (eC (.bool false))) sNil) (sSeq (sIf (bOr (asB (eOp neD (eCB (one lenD) (aCons (eOp ixD (eVar 1) (eC (.int 0))) aNil)) (eCB (one lenD) (aCons (eVar 0) aNil)))) (bNot (asB (eCB (one allD) (aCons (eLc (iOf (eOp ixD (eVar 1) (eC (.int 0)))) (tName 2) bYes (eCall f__law_is_pair (aCons (eVar 2) aNil)) [2]) aNil))))) (sRet (eC (.bool false))) sNil) (sSeq (sIf (bNot (asB (eCB (one allD) (aCons (eLc (iOf (eOp ixD (eVar 1) (eC (.int 0)))) (tName 2) bYes (eAndV (eUn (isiD "bool") (eOp ixD (eVar 2) (eC (.int 0)))) (eCall f__law_whole (aCons (eOp ixD (eVar 2) (eC (.int 1))) (aCons (eC (.int 0)) aNil)))) [2]) aNil)))) (sRet (eC (.bool false))) sNil) (sSeq (sIf (bOr (bNot (asB (eCall f__law_are_pairs (aCons (eOp ixD (eVar 1) (eC (.int 1))) aNil)))) (bOr (asB (eOp gtI (eCB (one lenD) (aCons (eOp ixD (eVar 1) (eC (.int 1))) aNil)) (eC (.int 5)))) (bNot (asB (eCall f__law_are_pairs (aCons (eOp ixD (eVar 1) (eC (.int 2))) aNil)))))) (sRet (eC (.bool false))) sNil) (sRet (eCall f__law_whole (aCons (eOp ixD (eVar 1) (eC (.int 3))) (aCons (eC (.int 0)) aNil))))))))
def f__law_is_context : List PyData → Pt → Option (PyData × Pt) := runF 3 g__law_is_context
theorem w__law_is_context (T : TX K mg) (TI : TBI T base) : FnD P w K mg base 4 T.a__law_is_context T.fd__law_is_context [Str.ofString "_law_calls", Str.ofString "_law_thing"] f__law_is_context :=
  fn_of_body T.F__law_is_context sc__law_is_context (by decide) (fun cdv A outer s H E hr => (pds_seq (pds_if (PW.pt (pdw_or (pdt_not (pdt_val (pd_isi (by rfl) T.m_isinstance (by rfl) T.m_tuple (by decide +kernel) (pd_var 1)))) (pdw_or (pdt_cmp (opd_ne (hu_n hr 64 (by decide))) (pd_callB cd_len (by rfl) T.m_len (by decide +kernel) (pda_cons (pd_var 1) pda_nil)) pd_int (nomark _)) (pdw_or1 (pdt_not (pdt_val (pd_isi (by rfl) T.m_isinstance (by rfl) T.m_tuple (by decide +kernel) (pd_ix ixd (fun _ _ => rfl) (pd_var 1) pd_int)))))))) (pds_one (pds_ret pd_bl)) pds_nil) (pds_seq (pds_if (PW.pt (pdw_or (pdt_cmp (opd_ne (hu_n hr 64 (by decide))) (pd_callB cd_len (by rfl) T.m_len (by decide +kernel) (pda_cons (pd_ix ixd (fun _ _ => rfl) (pd_var 1) pd_int) pda_nil)) (pd_callB cd_len (by rfl) T.m_len (by decide +kernel) (pda_cons (pd_var 0) pda_nil)) (nomark _)) (pdw_or1 (pdt_not (pdt_val (pd_callB (cd_all rfl) (by rfl) T.m_all (by decide +kernel) (pda_cons (pd_lc (own := [(Str.ofString "_law_one", 2)]) rfl sc__law_is_context.nd (pdi_data (pd_ix ixd (fun _ _ => rfl) (pd_var 1) pd_int)) (blkOk_by (by first | decide +kernel | rfl)) (fun _ _ _ _ _ => (pdg_name (i := 2) sc__law_is_context.nd rfl (by first | exact Or.inl rfl | exact Or.inr rfl))) (fun _ _ _ _ _ => pdts_nil) (fun _ _ _ _ _ => (pd_call (w__law_is_pair T TI) (hr.mono (by decide)) (by rfl) T.g__law_is_pair T.F__law_is_pair.kp T.b__law_is_pair (pda_cons (pd_var 2) pda_nil) (aCons_l aNil_l))) (by decide)) pda_nil))))))) (pds_one (pds_ret pd_bl)) pds_nil) (pds_seq (pds_if (pdt_not (pdt_val (pd_callB (cd_all rfl) (by rfl) T.m_all (by decide +kernel) (pda_cons (pd_lc (own := [(Str.ofString "_law_one", 2)]) rfl sc__law_is_context.nd (pdi_data (pd_ix ixd (fun _ _ => rfl) (pd_var 1) pd_int)) (blkOk_by (by first | decide +kernel | rfl)) (fun _ _ _ _ _ => (pdg_name (i := 2) sc__law_is_context.nd rfl (by first | exact Or.inl rfl | exact Or.inr rfl))) (fun _ _ _ _ _ => pdts_nil) (fun _ _ _ _ _ => (pd_and (pd_isi (by rfl) T.m_isinstance (by rfl) T.m_bool (by decide +kernel) (pd_ix ixd (fun _ _ => rfl) (pd_var 2) pd_int)) (pd_one (pd_call (w__law_whole T TI) (hr.mono (by decide)) (by rfl) T.g__law_whole T.F__law_whole.kp T.b__law_whole (pda_cons (pd_ix ixd (fun _ _ => rfl) (pd_var 2) pd_int) (pda_cons pd_int pda_nil)) (aCons_l (aCons_l aNil_l)))))) (by decide)) pda_nil)))) (pds_one (pds_ret pd_bl)) pds_nil) (pds_seq (pds_if (PW.pt (pdw_or (pdt_not (pdt_val (pd_call (w__law_are_pairs T TI) (hr.mono (by decide)) (by rfl) T.g__law_are_pairs T.F__law_are_pairs.kp T.b__law_are_pairs (pda_cons (pd_ix ixd (fun _ _ => rfl) (pd_var 1) pd_int) pda_nil) (aCons_l aNil_l)))) (pdw_or (pdt_cmp opd_gtI (pd_callB cd_len (by rfl) T.m_len (by decide +kernel) (pda_cons (pd_ix ixd (fun _ _ => rfl) (pd_var 1) pd_int) pda_nil)) pd_int (nomark _)) (pdw_or1 (pdt_not (pdt_val (pd_call (w__law_are_pairs T TI) (hr.mono (by decide)) (by rfl) T.g__law_are_pairs T.F__law_are_pairs.kp T.b__law_are_pairs (pda_cons (pd_ix ixd (fun _ _ => rfl) (pd_var 1) pd_int) pda_nil) (aCons_l aNil_l)))))))) (pds_one (pds_ret pd_bl)) pds_nil) (pds_one (pds_ret (pd_call (w__law_whole T TI) (hr.mono (by decide)) (by rfl) T.g__law_whole T.F__law_whole.kp T.b__law_whole (pda_cons (pd_ix ixd (fun _ _ => rfl) (pd_var 1) pd_int) (pda_cons pd_int pda_nil)) (aCons_l (aCons_l aNil_l))))))))))
theorem sc__law_exchanged : FnScope [Str.ofString "_law_part", Str.ofString "_law_at", Str.ofString "_law_front", Str.ofString "_law_back"] [Str.ofString "_law_part", Str.ofString "_law_at"] (defScope s__law_exchanged) := ⟨rfl, rfl, rfl, by decide +kernel, rfl, by decide +kernel, by decide +kernel⟩
def g__law_exchanged : SG := (sSeq (sPar 2 3 (aCons (eSl (eVar 0) oNone (oSome (eVar 1))) (aCons (eSl (eVar 0) (oSome (eOp addD (eVar 1) (eC (.int 2)))) oNone) aNil))) (sRet (eOp addD (eOp addD (eOp addD (eVar 2) (eSl (eVar 0) (oSome (eOp addD (eVar 1) (eC (.int 1)))) (oSome (eOp addD (eVar 1) (eC (.int 2)))))) (eSl (eVar 0) (oSome (eVar 1)) (oSome (eOp addD (eVar 1) (eC (.int 1)))))) (eVar 3))))
def f__law_exchanged : List PyData → Pt → Option (PyData × Pt) := runF 4 g__law_exchanged
theorem w__law_exchanged (T : TX K mg) (TI : TBI T base) : FnD P w K mg base 1 T.a__law_exchanged T.fd__law_exchanged [Str.ofString "_law_part", Str.ofString "_law_at"] f__law_exchanged :=
  fn_of_body T.F__law_exchanged sc__law_exchanged (by decide) (fun cdv A outer s H E hr => (pds_seq (pds_par (i := 2) (j := 3) rfl sc__law_exchanged.nd rfl rfl (by decide) rfl rfl (pda_cons (pd_slice (pd_var 0) pdo_none (pdo_some (pd_var 1))) (pda_cons (pd_slice (pd_var 0) (pdo_some (pd_op opd_add (pd_var 1) pd_int)) pdo_none) pda_nil)) (by rfl)) (pds_one (pds_ret (pd_op opd_add (pd_op opd_add (pd_op opd_add (pd_var 2) (pd_slice (pd_var 0) (pdo_some (pd_op opd_add (pd_var 1) pd_int)) (pdo_some (pd_op opd_add (pd_var 1) pd_int)))) (pd_slice (pd_var 0) (pdo_some (pd_var 1)) (pdo_some (pd_op opd_add (pd_var 1) pd_int)))) (pd_var 3))))))
theorem sc__law_spoilt_item : FnScope [Str.ofString "_law_pot_here", Str.ofString "_law_item", Str.ofString "_law_odd", Str.ofString "_law_one"] [Str.ofString "_law_pot_here", Str.ofString "_law_item"] (defScope s__law_spoilt_item) := ⟨rfl, rfl, rfl, by decide +kernel, rfl, by decide +kernel, by decide +kernel⟩
def g__law_spoilt_item : SG := (sSeq (sSet 2 (eLst (aCons (eC .none) (aCons (eC (.bool true)) (aCons (eC (.bool false)) (aCons (eUn negI (eC (.int 1))) (aCons (eC (.int 0)) (aCons (eC (.int 1)) (aCons (eC (.str (Str.ofString ""))) (aCons (eC (.str (Str.ofString "u"))) (aCons (eC (.str (Str.ofString "take"))) (aCons (eC (.str (Str.ofString "ninechars"))) (aCons (eC (.str (Str.ofString "A"))) (aCons (eTup aNil) (aCons (eLst aNil) (aCons (eOp powI (eC (.int 10)) (eC (.int 29))) (aCons (eC (.str (Str.ofString "z"))) (aCons (eC (.str (Str.ofString "a1"))) aNil)))))))))))))))))) (sSeq (sIf (bOr (bNot (asB (eUn (isiD "tuple") (eVar 1)))) (bOr (asB (eOp neD (eCB (one lenD) (aCons (eVar 1) aNil)) (eC (.int 2)))) (asB (eOp eqD (eCall f__law_draw (aCons (eVar 0) (aCons (eC (.int 4)) aNil))) (eC (.int 0)))))) (sRet (eCall f__law_pick (aCons (eVar 0) (aCons (eLst (aCons (eC .none) (aCons (eTup aNil) (aCons (eTup (aCons (eC (.str (Str.ofString "u"))) aNil)) (aCons (eTup (aCons (eC (.str (Str.ofString "u"))) (aCons (eC (.int 1)) (aCons (eC (.int 1)) aNil)))) (aCons (eLst (aCons (eC (.str (Str.ofString "u"))) (aCons (eC (.int 1)) aNil))) (aCons (eTup (aCons (eC (.bool true)) (aCons (eC (.int 0)) aNil))) (aCons (eTup (aCons (eC (.int 1)) (aCons (eC (.int 0)) aNil))) (aCons (eTup (aCons (eC (.str (Str.ofString "u"))) (aCons (eC (.bool true)) aNil))) (aCons (eC (.str (Str.ofString "ab"))) (aCons (eC (.int 0)) (aCons (eC (.dict [])) aNil)))))))))))) aNil)))) sNil) (sSeq (sSet 3 (eCall f__law_pick (aCons (eVar 0) (aCons (eVar 2) aNil)))) (sRet (eIf (asB (eOp eqD (eCall f__law_draw (aCons (eVar 0) (aCons (eC (.int 2)) aNil))) (eC (.int 0)))) (eTup (aCons (eVar 3) (aCons (eOp ixD (eVar 1) (eC (.int 1))) aNil))) (eTup (aCons (eOp ixD (eVar 1) (eC (.int 0))) (aCons (eVar 3) aNil))))))))
def f__law_spoilt_item : List PyData → Pt → Option (PyData × Pt) := runF 4 g__law_spoilt_item
theorem w__law_spoilt_item (T : TX K mg) (TI : TBI T base) : FnD P w K mg base 3 T.a__law_spoilt_item T.fd__law_spoilt_item [Str.ofString "_law_pot_here", Str.ofString "_law_item"] f__law_spoilt_item :=
  fn_of_body T.F__law_spoilt_item sc__law_spoilt_item (by decide) (fun cdv A outer s H E hr => (pds_seq (pds_set (i := 2) sc__law_spoilt_item.nd rfl (by first | exact Or.inl rfl | exact Or.inr rfl) (pd_lst (pda_cons pd_non (pda_cons pd_bl (pda_cons pd_bl (pda_cons (pd_neg pd_int) (pda_cons pd_int (pda_cons pd_int (pda_cons pd_str (pda_cons pd_str (pda_cons pd_str (pda_cons pd_str (pda_cons pd_str (pda_cons (pd_tup pda_nil) (pda_cons (pd_lst pda_nil) (pda_cons (pd_op opd_pow pd_int pd_int) (pda_cons pd_str (pda_cons pd_str pda_nil)))))))))))))))))) (pds_seq (pds_if (PW.pt (pdw_or (pdt_not (pdt_val (pd_isi (by rfl) T.m_isinstance (by rfl) T.m_tuple (by decide +kernel) (pd_var 1)))) (pdw_or (pdt_cmp (opd_ne (hu_n hr 64 (by decide))) (pd_callB cd_len (by rfl) T.m_len (by decide +kernel) (pda_cons (pd_var 1) pda_nil)) pd_int (nomark _)) (pdw_or1 (pdt_cmp (opd_eq (hu_n hr 64 (by decide))) (pd_call (w__law_draw T TI) (hr.mono (by decide)) (by rfl) T.g__law_draw T.F__law_draw.kp T.b__law_draw (pda_cons (pd_var 0) (pda_cons pd_int pda_nil)) (aCons_l (aCons_l aNil_l))) pd_int (nomark _)))))) (pds_one (pds_ret (pd_call (w__law_pick T TI) (hr.mono (by decide)) (by rfl) T.g__law_pick T.F__law_pick.kp T.b__law_pick (pda_cons (pd_var 0) (pda_cons (pd_lst (pda_cons pd_non (pda_cons (pd_tup pda_nil) (pda_cons (pd_tup (pda_cons pd_str pda_nil)) (pda_cons (pd_tup (pda_cons pd_str (pda_cons pd_int (pda_cons pd_int pda_nil)))) (pda_cons (pd_lst (pda_cons pd_str (pda_cons pd_int pda_nil))) (pda_cons (pd_tup (pda_cons pd_bl (pda_cons pd_int pda_nil))) (pda_cons (pd_tup (pda_cons pd_int (pda_cons pd_int pda_nil))) (pda_cons (pd_tup (pda_cons pd_str (pda_cons pd_bl pda_nil))) (pda_cons pd_str (pda_cons pd_int (pda_cons pd_emp pda_nil)))))))))))) pda_nil)) (aCons_l (aCons_l aNil_l))))) pds_nil) (pds_seq (pds_set (i := 3) sc__law_spoilt_item.nd rfl (by first | exact Or.inl rfl | exact Or.inr rfl) (pd_call (w__law_pick T TI) (hr.mono (by decide)) (by rfl) T.g__law_pick T.F__law_pick.kp T.b__law_pick (pda_cons (pd_var 0) (pda_cons (pd_var 2) pda_nil)) (aCons_l (aCons_l aNil_l)))) (pds_one (pds_ret (pd_if (pdt_cmp (opd_eq (hu_n hr 64 (by decide))) (pd_call (w__law_draw T TI) (hr.mono (by decide)) (by rfl) T.g__law_draw T.F__law_draw.kp T.b__law_draw (pda_cons (pd_var 0) (pda_cons pd_int pda_nil)) (aCons_l (aCons_l aNil_l))) pd_int (nomark _)) (pd_tup (pda_cons (pd_var 3) (pda_cons (pd_ix ixd (fun _ _ => rfl) (pd_var 1) pd_int) pda_nil))) (pd_tup (pda_cons (pd_ix ixd (fun _ _ => rfl) (pd_var 1) pd_int) (pda_cons (pd_var 3) pda_nil))))))))))
theorem sc__law_spoilt_part : FnScope [Str.ofString "_law_pot_here", Str.ofString "_law_part", Str.ofString "_law_way", Str.ofString "_law_at", Str.ofString "_law_some", Str.ofString "_law_more", Str.ofString "_law_item"] [Str.ofString "_law_pot_here", Str.ofString "_law_part"] (defScope s__law_spoilt_part) := ⟨rfl, rfl, rfl, by decide +kernel, rfl, by decide +kernel, by decide +kernel⟩
def g__law_spoilt_part : SG := (sSeq (sSet 2 (eCall f__law_draw (aCons (eVar 0) (aCons (eC (.int 7)) aNil)))) (sSeq (sIf (bOr (bNot (asB (eUn (isiD "tuple") (eVar 1)))) (asB (eOp eqD (eVar 2) (eC (.int 0))))) (sRet (eCall f__law_pick (aCons (eVar 0) (aCons (eLst (aCons (eC .none) (aCons (eC (.int 0)) (aCons (eUn negI (eC (.int 1))) (aCons (eC (.int 1)) (aCons (eC (.bool true)) (aCons (eC (.str (Str.ofString ""))) (aCons (eC (.str (Str.ofString "ab"))) (aCons (eTup aNil) (aCons (eLst aNil) (aCons (eC (.dict [])) (aCons (eTup (aCons (eTup aNil) aNil)) (aCons (eTup (aCons (eC .none) aNil)) (aCons (eOp powI (eC (.int 10)) (eC (.int 29))) aNil)))))))))))))) aNil)))) sNil) (sSeq (sIf (asB (eOp eqD (eVar 2) (eC (.int 1)))) (sRet (eCB (one listD) (aCons (eVar 1) aNil))) sNil) (sSeq (sSet 3 (eCall f__law_draw (aCons (eVar 0) (aCons (eOp addD (eCB (one lenD) (aCons (eVar 1) aNil)) (eC (.int 1))) aNil)))) (sSeq (sIf (asB (eOp eqD (eVar 2) (eC (.int 2)))) (sRet (eOp addD (eSl (eVar 1) oNone (oSome (eVar 3))) (eSl (eVar 1) (oSome (eOp addD (eVar 3) (eC (.int 1)))) oNone))) sNil) (sSeq (sIf (asB (eOp eqD (eVar 2) (eC (.int 3)))) (sRet (eOp addD (eOp addD (eSl (eVar 1) oNone (oSome (eVar 3))) (eOp repT (eSl (eVar 1) (oSome (eVar 3)) (oSome (eOp addD (eVar 3) (eC (.int 1))))) (eC (.int 2)))) (eSl (eVar 1) (oSome (eOp addD (eVar 3) (eC (.int 1)))) oNone))) sNil) (sSeq (sIf (asB (eOp eqD (eVar 2) (eC (.int 4)))) (sRet (eCall f__law_exchanged (aCons (eVar 1) (aCons (eVar 3) aNil)))) sNil) (sSeq (sIf (asB (eOp eqD (eVar 2) (eC (.int 5)))) (sSeq (sSet 5 (eCall f__law_pick (aCons (eVar 0) (aCons (eLst (aCons (eTup (aCons (eC (.str (Str.ofString "x"))) (aCons (eC (.int 1)) aNil))) (aCons (eTup (aCons (eC (.str (Str.ofString "b"))) (aCons (eC (.int 2)) aNil))) (aCons (eTup (aCons (eC (.str (Str.ofString "uu"))) (aCons (eC (.int 5)) aNil))) (aCons (eTup (aCons (eC (.bool true)) (aCons (eC (.int 3)) aNil))) (aCons (eTup (aCons (eC (.str (Str.ofString "a"))) (aCons (eC (.int 1)) aNil))) aNil)))))) aNil)))) (sRet (eOp addD (eOp addD (eSl (eVar 1) oNone (oSome (eVar 3))) (eTup (aCons (eVar 5) aNil))) (eSl (eVar 1) (oSome (eVar 3)) oNone)))) sNil) (sSeq (sSet 4 (eLc (iOf (eSl (eVar 1) (oSome (eVar 3)) (oSome (eOp addD (eVar 3) (eC (.int 1)))))) (tName 6) bYes (eCall f__law_spoilt_item (aCons (eVar 0) (aCons (eVar 6) aNil))) [6])) (sRet (eOp addD (eOp addD (eSl (eVar 1) oNone (oSome (eVar 3))) (eCB (one tupleD) (aCons (eVar 4) aNil))) (eSl (eVar 1) (oSome (eOp addD (eVar 3) (eC (.int 1)))) oNone))))))))))))
def f__law_spoilt_part : List PyData → Pt → Option (PyData × Pt) := runF 7 g__law_spoilt_part
theorem w__law_spoilt_part (T : TX K mg) (TI : TBI T base) : FnD P w K mg base 4 T.a__law_spoilt_part T.fd__law_spoilt_part [Str.ofString "_law_pot_here", Str.ofString "_law_part"] f__law_spoilt_part :=
  fn_of_body T.F__law_spoilt_part sc__law_spoilt_part (by decide) (fun cdv A outer s H E hr => (pds_seq (pds_set (i := 2) sc__law_spoilt_part.nd rfl (by first | exact Or.inl rfl | exact Or.inr rfl) (pd_call (w__law_draw T TI) (hr.mono (by decide)) (by rfl) T.g__law_draw T.F__law_draw.kp T.b__law_draw (pda_cons (pd_var 0) (pda_cons pd_int pda_nil)) (aCons_l (aCons_l aNil_l)))) (pds_seq (pds_if (PW.pt (pdw_or (pdt_not (pdt_val (pd_isi (by rfl) T.m_isinstance (by rfl) T.m_tuple (by decide +kernel) (pd_var 1)))) (pdw_or1 (pdt_cmp (opd_eq (hu_n hr 64 (by decide))) (pd_var 2) pd_int (nomark _))))) (pds_one (pds_ret (pd_call (w__law_pick T TI) (hr.mono (by decide)) (by rfl) T.g__law_pick T.F__law_pick.kp T.b__law_pick (pda_cons (pd_var 0) (pda_cons (pd_lst (pda_cons pd_non (pda_cons pd_int (pda_cons (pd_neg pd_int) (pda_cons pd_int (pda_cons pd_bl (pda_cons pd_str (pda_cons pd_str (pda_cons (pd_tup pda_nil) (pda_cons (pd_lst pda_nil) (pda_cons pd_emp (pda_cons (pd_tup (pda_cons (pd_tup pda_nil) pda_nil)) (pda_cons (pd_tup (pda_cons pd_non pda_nil)) (pda_cons (pd_op opd_pow pd_int pd_int) pda_nil)))))))))))))) pda_nil)) (aCons_l (aCons_l aNil_l))))) pds_nil) (pds_seq (pds_if (pdt_cmp (opd_eq (hu_n hr 64 (by decide))) (pd_var 2) pd_int (nomark _)) (pds_one (pds_ret (pd_callTy cd_list (by rfl) T.m_list (by decide +kernel) (pda_cons (pd_var 1) pda_nil)))) pds_nil) (pds_seq (pds_set (i := 3) sc__law_spoilt_part.nd rfl (by first | exact Or.inl rfl | exact Or.inr rfl) (pd_call (w__law_draw T TI) (hr.mono (by decide)) (by rfl) T.g__law_draw T.F__law_draw.kp T.b__law_draw (pda_cons (pd_var 0) (pda_cons (pd_op opd_add (pd_callB cd_len (by rfl) T.m_len (by decide +kernel) (pda_cons (pd_var 1) pda_nil)) pd_int) pda_nil)) (aCons_l (aCons_l aNil_l)))) (pds_seq (pds_if (pdt_cmp (opd_eq (hu_n hr 64 (by decide))) (pd_var 2) pd_int (nomark _)) (pds_one (pds_ret (pd_op opd_add (pd_slice (pd_var 1) pdo_none (pdo_some (pd_var 3))) (pd_slice (pd_var 1) (pdo_some (pd_op opd_add (pd_var 3) pd_int)) pdo_none)))) pds_nil) (pds_seq (pds_if (pdt_cmp (opd_eq (hu_n hr 64 (by decide))) (pd_var 2) pd_int (nomark _)) (pds_one (pds_ret (pd_op opd_add (pd_op opd_add (pd_slice (pd_var 1) pdo_none (pdo_some (pd_var 3))) (pd_op opd_repT (pd_slice (pd_var 1) (pdo_some (pd_var 3)) (pdo_some (pd_op opd_add (pd_var 3) pd_int))) pd_int)) (pd_slice (pd_var 1) (pdo_some (pd_op opd_add (pd_var 3) pd_int)) pdo_none)))) pds_nil) (pds_seq (pds_if (pdt_cmp (opd_eq (hu_n hr 64 (by decide))) (pd_var 2) pd_int (nomark _)) (pds_one (pds_ret (pd_call (w__law_exchanged T TI) (hr.mono (by decide)) (by rfl) T.g__law_exchanged T.F__law_exchanged.kp T.b__law_exchanged (pda_cons (pd_var 1) (pda_cons (pd_var 3) pda_nil)) (aCons_l (aCons_l aNil_l))))) pds_nil) (pds_seq (pds_if (pdt_cmp (opd_eq (hu_n hr 64 (by decide))) (pd_var 2) pd_int (nomark _)) (pds_seq (pds_set (i := 5) sc__law_spoilt_part.nd rfl (by first | exact Or.inl rfl | exact Or.inr rfl) (pd_call (w__law_pick T TI) (hr.mono (by decide)) (by rfl) T.g__law_pick T.F__law_pick.kp T.b__law_pick (pda_cons (pd_var 0) (pda_cons (pd_lst (pda_cons (pd_tup (pda_cons pd_str (pda_cons pd_int pda_nil))) (pda_cons (pd_tup (pda_cons pd_str (pda_cons pd_int pda_nil))) (pda_cons (pd_tup (pda_cons pd_str (pda_cons pd_int pda_nil))) (pda_cons (pd_tup (pda_cons pd_bl (pda_cons pd_int pda_nil))) (pda_cons (pd_tup (pda_cons pd_str (pda_cons pd_int pda_nil))) pda_nil)))))) pda_nil)) (aCons_l (aCons_l aNil_l)))) (pds_one (pds_ret (pd_op opd_add (pd_op opd_add (pd_slice (pd_var 1) pdo_none (pdo_some (pd_var 3))) (pd_tup (pda_cons (pd_var 5) pda_nil))) (pd_slice (pd_var 1) (pdo_some (pd_var 3)) pdo_none))))) pds_nil) (pds_seq (pds_setLc (i := 4) (own := [(Str.ofString "_law_item", 6)]) rfl sc__law_spoilt_part.nd rfl rfl (sw_true rfl rfl rfl (by decide +kernel)) (pdi_data (pd_slice (pd_var 1) (pdo_some (pd_var 3)) (pdo_some (pd_op opd_add (pd_var 3) pd_int)))) (blkOk_by (by first | decide +kernel | rfl)) (fun _ _ _ _ _ => (pdg_name (i := 6) sc__law_spoilt_part.nd rfl (by first | exact Or.inl rfl | exact Or.inr rfl))) (fun _ _ _ _ _ => pdts_nil) (fun _ _ _ _ _ => (pd_call (w__law_spoilt_item T TI) (hr.mono (by decide)) (by rfl) T.g__law_spoilt_item T.F__law_spoilt_item.kp T.b__law_spoilt_item (pda_cons (pd_var 0) (pda_cons (pd_var 6) pda_nil)) (aCons_l (aCons_l aNil_l)))) (by decide)) (pds_one (pds_ret (pd_op opd_add (pd_op opd_add (pd_slice (pd_var 1) pdo_none (pdo_some (pd_var 3))) (pd_callTy cd_tuple (by rfl) T.m_tuple (by decide +kernel) (pda_cons (pd_var 4) pda_nil))) (pd_slice (pd_var 1) (pdo_some (pd_op opd_add (pd_var 3) pd_int)) pdo_none))))))))))))))
theorem sc__law_spoilt : FnScope [Str.ofString "_law_pot_here", Str.ofString "_law_thing", Str.ofString "_law_at"] [Str.ofString "_law_pot_here", Str.ofString "_law_thing"] (defScope s__law_spoilt) := ⟨rfl, rfl, rfl, by decide +kernel, rfl, by decide +kernel, by decide +kernel⟩
def g__law_spoilt : SG := (sSeq (sIf (bOr (bNot (asB (eUn (isiD "tuple") (eVar 1)))) (bOr (asB (eOp ltI (eCB (one lenD) (aCons (eVar 1) aNil)) (eC (.int 4)))) (asB (eOp eqD (eCall f__law_draw (aCons (eVar 0) (aCons (eC (.int 8)) aNil))) (eC (.int 0)))))) (sRet (eCall f__law_pick (aCons (eVar 0) (aCons (eLst (aCons (eC .none) (aCons (eTup aNil) (aCons (eLst aNil) (aCons (eC (.int 0)) (aCons (eC (.str (Str.ofString ""))) (aCons (eC (.dict [])) (aCons (eC (.bool true)) (aCons (eC (.int 4)) aNil))))))))) aNil)))) sNil) (sSeq (sIf (asB (eOp eqD (eCall f__law_draw (aCons (eVar 0) (aCons (eC (.int 8)) aNil))) (eC (.int 0)))) (sRet (eCall f__law_pick (aCons (eVar 0) (aCons (eLst (aCons (eSl (eVar 1) oNone (oSome (eC (.int 3)))) (aCons (eSl (eVar 1) (oSome (eC (.int 1))) oNone) (aCons (eOp addD (eVar 1) (eTup (aCons (eC (.int 0)) aNil))) (aCons (eOp addD (eVar 1) (eTup (aCons (eTup aNil) aNil))) (aCons (eCB (one listD) (aCons (eVar 1) aNil)) aNil)))))) aNil)))) sNil) (sSeq (sSet 2 (eCall f__law_draw (aCons (eVar 0) (aCons (eC (.int 4)) aNil)))) (sRet (eOp addD (eOp addD (eSl (eVar 1) oNone (oSome (eVar 2))) (eTup (aCons (eCall f__law_spoilt_part (aCons (eVar 0) (aCons (eOp ixD (eVar 1) (eVar 2)) aNil))) aNil))) (eSl (eVar 1) (oSome (eOp addD (eVar 2) (eC (.int 1)))) oNone))))))
def f__law_spoilt : List PyData → Pt → Option (PyData × Pt) := runF 3 g__law_spoilt
theorem w__law_spoilt (T : TX K mg) (TI : TBI T base) : FnD P w K mg base 5 T.a__law_spoilt T.fd__law_spoilt [Str.ofString "_law_pot_here", Str.ofString "_law_thing"] f__law_spoilt :=
  fn_of_body T.F__law_spoilt sc__law_spoilt (by decide) (fun cdv A outer s H E hr => (pds_seq (pds_if (PW.pt (pdw_or (pdt_not (pdt_val (pd_isi (by rfl) T.m_isinstance (by rfl) T.m_tuple (by decide +kernel) (pd_var 1)))) (pdw_or (pdt_cmp opd_ltI (pd_callB cd_len (by rfl) T.m_len (by decide +kernel) (pda_cons (pd_var 1) pda_nil)) pd_int (nomark _)) (pdw_or1 (pdt_cmp (opd_eq (hu_n hr 64 (by decide))) (pd_call (w__law_draw T TI) (hr.mono (by decide)) (by rfl) T.g__law_draw T.F__law_draw.kp T.b__law_draw (pda_cons (pd_var 0) (pda_cons pd_int pda_nil)) (aCons_l (aCons_l aNil_l))) pd_int (nomark _)))))) (pds_one (pds_ret (pd_call (w__law_pick T TI) (hr.mono (by decide)) (by rfl) T.g__law_pick T.F__law_pick.kp T.b__law_pick (pda_cons (pd_var 0) (pda_cons (pd_lst (pda_cons pd_non (pda_cons (pd_tup pda_nil) (pda_cons (pd_lst pda_nil) (pda_cons pd_int (pda_cons pd_str (pda_cons pd_emp (pda_cons pd_bl (pda_cons pd_int pda_nil))))))))) pda_nil)) (aCons_l (aCons_l aNil_l))))) pds_nil) (pds_seq (pds_if (pdt_cmp (opd_eq (hu_n hr 64 (by decide))) (pd_call (w__law_draw T TI) (hr.mono (by decide)) (by rfl) T.g__law_draw T.F__law_draw.kp T.b__law_draw (pda_cons (pd_var 0) (pda_cons pd_int pda_nil)) (aCons_l (aCons_l aNil_l))) pd_int (nomark _)) (pds_one (pds_ret (pd_call (w__law_pick T TI) (hr.mono (by decide)) (by rfl) T.g__law_pick T.F__law_pick.kp T.b__law_pick (pda_cons (pd_var 0) (pda_cons (pd_lst (pda_cons (pd_slice (pd_var 1) pdo_none (pdo_some pd_int)) (pda_cons (pd_slice (pd_var 1) (pdo_some pd_int) pdo_none) (pda_cons (pd_op opd_add (pd_var 1) (pd_tup (pda_cons pd_int pda_nil))) (pda_cons (pd_op opd_add (pd_var 1) (pd_tup (pda_cons (pd_tup pda_nil) pda_nil))) (pda_cons (pd_callTy cd_list (by rfl) T.m_list (by decide +kernel) (pda_cons (pd_var 1) pda_nil)) pda_nil)))))) pda_nil)) (aCons_l (aCons_l aNil_l))))) pds_nil) (pds_seq (pds_set (i := 2) sc__law_spoilt.nd rfl (by first | exact Or.inl rfl | exact Or.inr rfl) (pd_call (w__law_draw T TI) (hr.mono (by decide)) (by rfl) T.g__law_draw T.F__law_draw.kp T.b__law_draw (pda_cons (pd_var 0) (pda_cons pd_int pda_nil)) (aCons_l (aCons_l aNil_l)))) (pds_one (pds_ret (pd_op opd_add (pd_op opd_add (pd_slice (pd_var 1) pdo_none (pdo_some (pd_var 2))) (pd_tup (pda_cons (pd_call (w__law_spoilt_part T TI) (hr.mono (by decide)) (by rfl) T.g__law_spoilt_part T.F__law_spoilt_part.kp T.b__law_spoilt_part (pda_cons (pd_var 0) (pda_cons (pd_ix ixd (fun _ _ => rfl) (pd_var 1) (pd_var 2)) pda_nil)) (aCons_l (aCons_l aNil_l))) pda_nil))) (pd_slice (pd_var 1) (pdo_some (pd_op opd_add (pd_var 2) pd_int)) pdo_none))))))))
theorem sc__law_told_right : FnScope [Str.ofString "_law_calls", Str.ofString "_law_thing", Str.ofString "_law_told", Str.ofString "_law_due", Str.ofString "_law_shown"] [Str.ofString "_law_calls", Str.ofString "_law_thing"] (defScope s__law_told_right) := ⟨rfl, rfl, rfl, by decide +kernel, rfl, by decide +kernel, by decide +kernel⟩
def g__law_told_right : SG := (sSeq (sPar 3 4 (aCons (eCall f__law_is_context (aCons (eVar 0) (aCons (eVar 1) aNil))) (aCons (eCB (one reprD) (aCons (eTup (aCons (eVar 0) (aCons (eVar 1) aNil))) aNil)) aNil))) (sSeq (sSet 2 (eLst (aCons (eCall f_is_context (aCons (eVar 0) (aCons (eVar 1) aNil))) (aCons (eCallK f_is_context [1, 0] (aCons (eVar 1) (aCons (eVar 0) aNil))) aNil)))) (sRet (eAndV (eOp eqD (eCB (one reprD) (aCons (eVar 2) aNil)) (eCB (one reprD) (aCons (eLst (aCons (eVar 3) (aCons (eVar 3) aNil))) aNil))) (eOp eqD (eCB (one reprD) (aCons (eTup (aCons (eVar 0) (aCons (eVar 1) aNil))) aNil)) (eVar 4))))))
def f__law_told_right : List PyData → Pt → Option (PyData × Pt) := runF 5 g__law_told_right
theorem w__law_told_right (T : TX K mg) (TI : TBI T base) : FnD P w K mg base 5 T.a__law_told_right T.fd__law_told_right [Str.ofString "_law_calls", Str.ofString "_law_thing"] f__law_told_right :=
  fn_of_body T.F__law_told_right sc__law_told_right (by decide) (fun cdv A outer s H E hr => (pds_seq (pds_par (i := 3) (j := 4) rfl sc__law_told_right.nd rfl rfl (by decide) rfl rfl (pda_cons (pd_call (w__law_is_context T TI) (hr.mono (by decide)) (by rfl) T.g__law_is_context T.F__law_is_context.kp T.b__law_is_context (pda_cons (pd_var 0) (pda_cons (pd_var 1) pda_nil)) (aCons_l (aCons_l aNil_l))) (pda_cons (pd_callB (cd_repr hr TI.sys) (by rfl) T.m_repr (by decide +kernel) (pda_cons (pd_tup (pda_cons (pd_var 0) (pda_cons (pd_var 1) pda_nil))) pda_nil)) pda_nil)) (by rfl)) (pds_seq (pds_set (i := 2) sc__law_told_right.nd rfl (by first | exact Or.inl rfl | exact Or.inr rfl) (pd_lst (pda_cons (pd_call (w_is_context T TI) (hr.mono (by decide)) (by rfl) T.g_is_context T.F_is_context.kp T.b_is_context (pda_cons (pd_var 0) (pda_cons (pd_var 1) pda_nil)) (aCons_l (aCons_l aNil_l))) (pda_cons (pd_callK (ks := [Str.ofString "value", Str.ofString "callbacks"]) (is := [1, 0]) (w_is_context T TI) (hr.mono (by decide)) (by rfl) T.g_is_context T.F_is_context.kp T.kb0 (pdk_cons (pd_var 1) (pdk_cons (pd_var 0) pdk_nil)) (aCons_l (aCons_l aNil_l)) (permL_len rfl)) pda_nil)))) (pds_one (pds_ret (pd_and (pd_cmp (opd_eq (hu_n hr 64 (by decide))) (pd_callB (cd_repr hr TI.sys) (by rfl) T.m_repr (by decide +kernel) (pda_cons (pd_var 2) pda_nil)) (pd_callB (cd_repr hr TI.sys) (by rfl) T.m_repr (by decide +kernel) (pda_cons (pd_lst (pda_cons (pd_var 3) (pda_cons (pd_var 3) pda_nil))) pda_nil)) (nomark _)) (pd_one (pd_cmp (opd_eq (hu_n hr 64 (by decide))) (pd_callB (cd_repr hr TI.sys) (by rfl) T.m_repr (by decide +kernel) (pda_cons (pd_tup (pda_cons (pd_var 0) (pda_cons (pd_var 1) pda_nil))) pda_nil)) (pd_var 4) (nomark _)))))))))
theorem sc__law_right : FnScope [Str.ofString "_law_pot_here", Str.ofString "_law_calls", Str.ofString "_law_good", Str.ofString "_law_turn", Str.ofString "_law_names", Str.ofString "_law_many", Str.ofString "_law_thing", Str.ofString "_law_again", Str.ofString "_law_name"] [Str.ofString "_law_pot_here"] (defScope s__law_right) := ⟨rfl, rfl, rfl, by decide +kernel, rfl, by decide +kernel, by decide +kernel⟩
def g__law_right : SG := (sSeq (sSet 1 (eCall f__law_pick (aCons (eVar 0) (aCons (eLst (aCons (eTup aNil) (aCons (eTup (aCons (eC (.str (Str.ofString "c"))) aNil)) (aCons (eTup (aCons (eC (.str (Str.ofString "c"))) (aCons (eC (.str (Str.ofString "d"))) aNil))) (aCons (eTup (aCons (eC (.str (Str.ofString "b"))) (aCons (eC (.str (Str.ofString "c"))) (aCons (eC (.str (Str.ofString "zz"))) aNil)))) (aCons (eTup (aCons (eC (.str (Str.ofString "p"))) (aCons (eC (.str (Str.ofString "twelve"))) aNil))) (aCons (eTup (aCons (eC (.str (Str.ofString "a"))) (aCons (eC (.str (Str.ofString "b"))) (aCons (eC (.str (Str.ofString "c"))) (aCons (eC (.str (Str.ofString "d"))) (aCons (eC (.str (Str.ofString "ff"))) aNil)))))) aNil))))))) aNil)))) (sSeq (sSet 2 (eCall f__law_context (aCons (eVar 0) (aCons (eVar 1) aNil)))) (sSeq (sIf (bOr (bNot (asB (eCall f__law_told_right (aCons (eVar 1) (aCons (eVar 2) aNil))))) (bNot (asB (eCall f__law_is_context (aCons (eVar 1) (aCons (eVar 2) aNil)))))) (sRet (eC (.bool false))) sNil) (sSeq (sFor (iRange (aCons (eC (.int 12)) aNil)) (tName 3) (sSeq (sSet 6 (eVar 2)) (sSeq (sFor (iRange (aCons (eOp addD (eC (.int 1)) (eCall f__law_draw (aCons (eVar 0) (aCons (eC (.int 2)) aNil)))) aNil)) (tName 7) (sSet 6 (eCall f__law_spoilt (aCons (eVar 0) (aCons (eVar 6) aNil))))) (sIf (bNot (asB (eCall f__law_told_right (aCons (eVar 1) (aCons (eVar 6) aNil))))) (sRet (eC (.bool false))) sNil)))) (sSeq (sSet 4 (eSl (eLst (aCons (eC (.str (Str.ofString "u"))) (aCons (eC (.str (Str.ofString "v"))) (aCons (eC (.str (Str.ofString "w"))) (aCons (eC (.str (Str.ofString "x"))) (aCons (eC (.str (Str.ofString "y"))) (aCons (eC (.str (Str.ofString "z"))) aNil))))))) oNone (oSome (eOp addD (eC (.int 5)) (eCall f__law_draw (aCons (eVar 0) (aCons (eC (.int 2)) aNil))))))) (sSeq (sSet 5 (eCB (one tupleD) (aCons (eLc (iOf (eVar 4)) (tName 8) bYes (eTup (aCons (eVar 8) (aCons (eOp addD (eC (.int 1)) (eCall f__law_draw (aCons (eVar 0) (aCons (eC (.int 3)) aNil)))) aNil))) [8]) aNil))) (sRet (eCall f__law_told_right (aCons (eVar 1) (aCons (eTup (aCons (eOp ixD (eVar 2) (eC (.int 0))) (aCons (eVar 5) (aCons (eOp ixD (eVar 2) (eC (.int 2))) (aCons (eOp ixD (eVar 2) (eC (.int 3))) aNil))))) aNil))))))))))
def f__law_right : List PyData → Pt → Option (PyData × Pt) := runF 9 g__law_right
theorem w__law_right (T : TX K mg) (TI : TBI T base) : FnD P w K mg base 6 T.a__law_right T.fd__law_right [Str.ofString "_law_pot_here"] f__law_right :=
  fn_of_body T.F__law_right sc__law_right (by decide) (fun cdv A outer s H E hr => (pds_seq (pds_set (i := 1) sc__law_right.nd rfl (by first | exact Or.inl rfl | exact Or.inr rfl) (pd_call (w__law_pick T TI) (hr.mono (by decide)) (by rfl) T.g__law_pick T.F__law_pick.kp T.b__law_pick (pda_cons (pd_var 0) (pda_cons (pd_lst (pda_cons (pd_tup pda_nil) (pda_cons (pd_tup (pda_cons pd_str pda_nil)) (pda_cons (pd_tup (pda_cons pd_str (pda_cons pd_str pda_nil))) (pda_cons (pd_tup (pda_cons pd_str (pda_cons pd_str (pda_cons pd_str pda_nil)))) (pda_cons (pd_tup (pda_cons pd_str (pda_cons pd_str pda_nil))) (pda_cons (pd_tup (pda_cons pd_str (pda_cons pd_str (pda_cons pd_str (pda_cons pd_str (pda_cons pd_str pda_nil)))))) pda_nil))))))) pda_nil)) (aCons_l (aCons_l aNil_l)))) (pds_seq (pds_set (i := 2) sc__law_right.nd rfl (by first | exact Or.inl rfl | exact Or.inr rfl) (pd_call (w__law_context T TI) (hr.mono (by decide)) (by rfl) T.g__law_context T.F__law_context.kp T.b__law_context (pda_cons (pd_var 0) (pda_cons (pd_var 1) pda_nil)) (aCons_l (aCons_l aNil_l)))) (pds_seq (pds_if (PW.pt (pdw_or (pdt_not (pdt_val (pd_call (w__law_told_right T TI) (hr.mono (by decide)) (by rfl) T.g__law_told_right T.F__law_told_right.kp T.b__law_told_right (pda_cons (pd_var 1) (pda_cons (pd_var 2) pda_nil)) (aCons_l (aCons_l aNil_l))))) (pdw_or1 (pdt_not (pdt_val (pd_call (w__law_is_context T TI) (hr.mono (by decide)) (by rfl) T.g__law_is_context T.F__law_is_context.kp T.b__law_is_context (pda_cons (pd_var 1) (pda_cons (pd_var 2) pda_nil)) (aCons_l (aCons_l aNil_l)))))))) (pds_one (pds_ret pd_bl)) pds_nil) (pds_seq (pds_for PassesOwn.never rfl (pdi_range1 (by rfl) T.m_range (pda_cons pd_int pda_nil)) (pdg_name (i := 3) sc__law_right.nd rfl (by first | exact Or.inl rfl | exact Or.inr rfl)) (pds_seq (pds_set (i := 6) sc__law_right.nd rfl (by first | exact Or.inl rfl | exact Or.inr rfl) (pd_var 2)) (pds_seq (pds_for PassesOwn.never rfl (pdi_range1 (by rfl) T.m_range (pda_cons (pd_op opd_add pd_int (pd_call (w__law_draw T TI) (hr.mono (by decide)) (by rfl) T.g__law_draw T.F__law_draw.kp T.b__law_draw (pda_cons (pd_var 0) (pda_cons pd_int pda_nil)) (aCons_l (aCons_l aNil_l)))) pda_nil)) (pdg_name (i := 7) sc__law_right.nd rfl (by first | exact Or.inl rfl | exact Or.inr rfl)) (pds_one (pds_set (i := 6) sc__law_right.nd rfl (by first | exact Or.inl rfl | exact Or.inr rfl) (pd_call (w__law_spoilt T TI) (hr.mono (by decide)) (by rfl) T.g__law_spoilt T.F__law_spoilt.kp T.b__law_spoilt (pda_cons (pd_var 0) (pda_cons (pd_var 6) pda_nil)) (aCons_l (aCons_l aNil_l)))))) (pds_one (pds_if (pdt_not (pdt_val (pd_call (w__law_told_right T TI) (hr.mono (by decide)) (by rfl) T.g__law_told_right T.F__law_told_right.kp T.b__law_told_right (pda_cons (pd_var 1) (pda_cons (pd_var 6) pda_nil)) (aCons_l (aCons_l aNil_l))))) (pds_one (pds_ret pd_bl)) pds_nil))))) (pds_seq (pds_set (i := 4) sc__law_right.nd rfl (by first | exact Or.inl rfl | exact Or.inr rfl) (pd_slice (pd_lst (pda_cons pd_str (pda_cons pd_str (pda_cons pd_str (pda_cons pd_str (pda_cons pd_str (pda_cons pd_str pda_nil))))))) pdo_none (pdo_some (pd_op opd_add pd_int (pd_call (w__law_draw T TI) (hr.mono (by decide)) (by rfl) T.g__law_draw T.F__law_draw.kp T.b__law_draw (pda_cons (pd_var 0) (pda_cons pd_int pda_nil)) (aCons_l (aCons_l aNil_l))))))) (pds_seq (pds_set (i := 5) sc__law_right.nd rfl (by first | exact Or.inl rfl | exact Or.inr rfl) (pd_callTy cd_tuple (by rfl) T.m_tuple (by decide +kernel) (pda_cons (pd_lc (own := [(Str.ofString "_law_name", 8)]) rfl sc__law_right.nd (pdi_data (pd_var 4)) (blkOk_by (by first | decide +kernel | rfl)) (fun _ _ _ _ _ => (pdg_name (i := 8) sc__law_right.nd rfl (by first | exact Or.inl rfl | exact Or.inr rfl))) (fun _ _ _ _ _ => pdts_nil) (fun _ _ _ _ _ => (pd_tup (pda_cons (pd_var 8) (pda_cons (pd_op opd_add pd_int (pd_call (w__law_draw T TI) (hr.mono (by decide)) (by rfl) T.g__law_draw T.F__law_draw.kp T.b__law_draw (pda_cons (pd_var 0) (pda_cons pd_int pda_nil)) (aCons_l (aCons_l aNil_l)))) pda_nil)))) (by decide)) pda_nil))) (pds_one (pds_ret (pd_call (w__law_told_right T TI) (hr.mono (by decide)) (by rfl) T.g__law_told_right T.F__law_told_right.kp T.b__law_told_right (pda_cons (pd_var 1) (pda_cons (pd_tup (pda_cons (pd_ix ixd (fun _ _ => rfl) (pd_var 2) pd_int) (pda_cons (pd_var 5) (pda_cons (pd_ix ixd (fun _ _ => rfl) (pd_var 2) pd_int) (pda_cons (pd_ix ixd (fun _ _ => rfl) (pd_var 2) pd_int) pda_nil))))) pda_nil)) (aCons_l (aCons_l aNil_l))))))))))))
theorem sc_law : FnScope [Str.ofString "_law_script", Str.ofString "_law_k"] [Str.ofString "_law_script"] (defScope s_law) := ⟨rfl, rfl, rfl, by decide +kernel, rfl, by decide +kernel, by decide +kernel⟩
def g_law : SG := (sRet (eCB (one allD) (aCons (eLc (iRange (aCons (eCB max2 (aCons (eC (.int 1)) (aCons (eCB min2 (aCons (eCB (one lenD) (aCons (eVar 0) aNil)) (aCons (eC (.int 4)) aNil))) aNil))) aNil)) (tName 1) bYes (eCallPot f__law_right f__law_pot (aCons (eVar 0) (aCons (eVar 1) aNil))) [1]) aNil)))
def f_law : List PyData → Pt → Option (PyData × Pt) := runF 2 g_law
theorem w_law (T : TX K mg) (TI : TBI T base) : FnD P w K mg base 7 T.a_law T.fd_law [Str.ofString "_law_script"] f_law :=
  fn_of_body T.F_law sc_law (by decide) (fun cdv A outer s H E hr => (pds_one (pds_ret (pd_callB (cd_all rfl) (by rfl) T.m_all (by decide +kernel) (pda_cons (pd_lc (own := [(Str.ofString "_law_k", 1)]) rfl sc_law.nd (pdi_range1 (by rfl) T.m_range (pda_cons (pd_callB (cd_max2 rfl) (by rfl) T.m_max (by decide +kernel) (pda_cons pd_int (pda_cons (pd_callB (cd_min2 rfl) (by rfl) T.m_min (by decide +kernel) (pda_cons (pd_callB cd_len (by rfl) T.m_len (by decide +kernel) (pda_cons (pd_var 0) pda_nil)) (pda_cons pd_int pda_nil))) pda_nil))) pda_nil)) (blkOk_by (by first | decide +kernel | rfl)) (fun _ _ _ _ _ => (pdg_name (i := 1) sc_law.nd rfl (by first | exact Or.inl rfl | exact Or.inr rfl))) (fun _ _ _ _ _ => pdts_nil) (fun _ _ _ _ _ => (pd_callPot (w__law_right T TI) (hr.mono (by decide)) (by rfl) T.g__law_right T.F__law_right.kp T.b__law_right (w__law_pot T TI) (hr.mono (by decide)) (by rfl) T.g__law_pot T.F__law_pot.kp T.b__law_pot (pda_cons (pd_var 0) (pda_cons (pd_var 1) pda_nil)) (aCons_l (aCons_l aNil_l)))) (by decide)) pda_nil)))))
end
end K71

set_option Elab.async false
set_option linter.all false
set_option maxRecDepth 100000
set_option maxHeartbeats 1000000
/-! k71, the plain law: what the functions answer of well formed data. -/
namespace K71
open PySem L2 DL
local instance : TBL := ⟨[]⟩
theorem aCons_two {g1 g2 : EG} {S0 : Sd} {p p1 p2 : Pt} {x y : PyData} (h1 : g1 S0 p = some (x, p1)) (h2 : g2 S0 p1 = some (y, p2)) : aCons g1 (aCons g2 aNil) S0 p = some ([x, y], p2) := by
  simp only [aCons, aNil, h1, h2, bindP_some]
theorem aCons_one {g1 : EG} {S0 : Sd} {p p1 : Pt} {x : PyData} (h1 : g1 S0 p = some (x, p1)) : aCons g1 aNil S0 p = some ([x], p1) := by
  simp only [aCons, aNil, h1, bindP_some]
theorem fits_of {ds : List PyData} (h : ds.length ≤ 1000) : fitsL ds = true := decide_eq_true (by omega)
theorem sSeq_nx {a b : SG} {S S1 : Sd} {ps p : Pt} (h : a S ps = some (.nx S1, p)) : sSeq a b S ps = b S1 p := by
  unfold sSeq
  rw [h]
theorem sSeq_rt {a b : SG} {S : Sd} {ps p : Pt} {d : PyData} (h : a S ps = some (.rt d, p)) : sSeq a b S ps = some (.rt d, p) := by
  unfold sSeq
  rw [h]
theorem sIf_at {t : BG} {a b : SG} {S : Sd} {ps p : Pt} {x : Bool} (h : t S ps = some (x, p)) : sIf t a b S ps = if x then a S p else b S p := by
  unfold sIf
  rw [h]
  rfl
theorem bNot_at {g : BG} {S : Sd} {ps p : Pt} {b : Bool} (h : g S ps = some (b, p)) : bNot g S ps = some (!b, p) := by
  unfold bNot
  rw [h]
  rfl
theorem bOr_at {g h : BG} {S : Sd} {ps p p2 : Pt} {b c : Bool} (h1 : g S ps = some (b, p)) (h2 : b = false → h S p = some (c, p2)) (h3 : b = true → p = p2) : bOr g h S ps = some (b || c, p2) := by
  unfold bOr
  rw [h1]
  cases b with
  | true =>
    cases h3 rfl
    rfl
  | false => exact h2 rfl
theorem eAnd_at {g h : EG} {S : Sd} {ps : Pt} {b c : Bool} (h1 : g S ps = some (.bool b, ps)) (h2 : b = true → h S ps = some (.bool c, ps)) : eAndV g h S ps = some (.bool (b && c), ps) := by
  unfold eAndV
  rw [h1]
  cases b with
  | true => exact h2 rfl
  | false => rfl
theorem asB_at {g : EG} {S : Sd} {ps p : Pt} {b : Bool} (h : g S ps = some (.bool b, p)) : asB g S ps = some (b, p) := by
  unfold asB
  rw [h]
theorem eUn_at {o : PyData → Option PyData} {g : EG} {S : Sd} {ps p : Pt} {x d : PyData} (h : g S ps = some (x, p)) (ho : o x = some d) : eUn o g S ps = some (d, p) := by
  unfold eUn
  rw [h, bindP_some, ho]
  rfl
theorem eOp_at {o : PyData → PyData → Option PyData} {g h : EG} {S : Sd} {ps p p2 : Pt} {x y d : PyData} (h1 : g S ps = some (x, p)) (h2 : h S p = some (y, p2)) (ho : o x y = some d) : eOp o g h S ps = some (d, p2) := by
  unfold eOp
  rw [h1, bindP_some, h2, bindP_some, ho]
  rfl
theorem eCB_at {o : List PyData → Option PyData} {gs : AG} {S : Sd} {ps p : Pt} {ds : List PyData} {d : PyData} (h : gs S ps = some (ds, p)) (ho : o ds = some d) : eCB o gs S ps = some (d, p) := by
  unfold eCB
  rw [h, bindP_some, ho]
  rfl
theorem eCall_at {f : List PyData → Pt → Option (PyData × Pt)} {gs : AG} {S : Sd} {ps p p2 : Pt} {ds : List PyData} {d : PyData} (h : gs S ps = some (ds, p)) (ho : f ds p = some (d, p2)) : eCall f gs S ps = some (d, p2) := by
  unfold eCall
  rw [h, bindP_some, ho]
theorem run_rt {n : Nat} {g : SG} {ds : List PyData} {ps p : Pt} {d : PyData} (h : g (startD n ds) ps = some (.rt d, p)) : runF n g ds ps = some (d, p) := by
  unfold runF
  rw [h]
theorem sRet_at {g : EG} {S : Sd} {ps p : Pt} {d : PyData} (h : g S ps = some (d, p)) : sRet g S ps = some (.rt d, p) := by
  unfold sRet
  rw [h]
  rfl
theorem sSet_at {i : Nat} {g : EG} {S : Sd} {ps p : Pt} {d : PyData} (h : g S ps = some (d, p)) : sSet i g S ps = some (.nx (S.set i (.dat d)), p) := by
  unfold sSet
  rw [h]
  rfl
/-- a comprehension over encoded things that draws nothing -/
theorem lc_enc {α : Type} {e : α → PyData} {it : AG} {t : Tgt} {test : BG} {elt : EG} {vs : List Nat} {S0 : Sd} {ps : Pt} {xs : List α} {g : α → PyData} (hi : it S0 ps = some (xs.map e, ps)) (hl : xs.length ≤ 1000) (h : ∀ x ∈ xs, lcStep t test elt (wipeD S0 vs) (e x) ps = some (some (g x), ps)) :
    eLc it t test elt vs S0 ps = some (.list (xs.map g), ps) := by
  unfold eLc
  rw [hi, bindP_some, if_pos (fits_of (by rw [List.length_map]; exact hl))]
  have key : ∀ (ys : List α) (acc : List PyData), (∀ y ∈ ys, y ∈ xs) → lcGo (lcStep t test elt (wipeD S0 vs)) (ys.map e) ps acc = some (acc ++ ys.map g, ps) := by
    intro ys
    induction ys with
    | nil => intro acc _; simp [lcGo]
    | cons y r ih =>
      intro acc hy
      rw [List.map_cons]
      unfold lcGo
      rw [h y (hy y List.mem_cons_self), bindP_some, ih _ fun z hz => hy z (List.mem_cons_of_mem _ hz)]
      simp
  rw [key xs [] fun y hy => hy, bindP_some]
  simp
theorem lcS_at {t : Tgt} {elt : EG} {S S1 : Sd} {x y : PyData} {ps : Pt} (ht : t x S = some S1) (he : elt S1 ps = some (y, ps)) : lcStep t bYes elt S x ps = some (some y, ps) := by
  unfold lcStep
  rw [ht]
  simp only [bYes, bindP_some, he, if_true]
/-- a comprehension that draws nothing -/
theorem lc_dat {it : AG} {t : Tgt} {test : BG} {elt : EG} {vs : List Nat} {S0 : Sd} {ps : Pt} {ds : List PyData} {g : PyData → Option PyData} (hi : it S0 ps = some (ds, ps)) (hl : ds.length ≤ 1000) (h : ∀ d ∈ ds, lcStep t test elt (wipeD S0 vs) d ps = some (g d, ps)) :
    eLc it t test elt vs S0 ps = some (.list (ds.filterMap g), ps) := by
  unfold eLc
  rw [hi, bindP_some, if_pos (fits_of hl)]
  have key : ∀ (ys acc : List PyData), (∀ y ∈ ys, y ∈ ds) → lcGo (lcStep t test elt (wipeD S0 vs)) ys ps acc = some (acc ++ ys.filterMap g, ps) := by
    intro ys
    induction ys with
    | nil => intro acc _; simp [lcGo]
    | cons y r ih =>
      intro acc hy
      unfold lcGo
      rw [h y (hy y List.mem_cons_self), bindP_some, ih _ fun z hz => hy z (List.mem_cons_of_mem _ hz)]
      cases q : g y with
      | none => simp [List.filterMap_cons, q]
      | some w => simp [List.filterMap_cons, q]
  rw [key ds [] fun y hy => hy, bindP_some]
  simp
theorem fm_some {α β : Type} (f : α → β) (xs : List α) : xs.filterMap (fun x => some (f x)) = xs.map f := by
  induction xs with
  | nil => rfl
  | cons x r ih => simp [ih]
theorem bools_map {α : Type} (f : α → Bool) (xs : List α) : bools (xs.map fun x => PyData.bool (f x)) = some (xs.map f) := by
  induction xs with
  | nil => rfl
  | cons x r ih =>
    show (bools (r.map fun x => PyData.bool (f x))).map (f x :: ·) = _
    rw [ih]
    rfl
/-! ### well formed data: lists and tuples of at most w items, short texts, numbers of few bits, no dict but {} -/
mutual
def wf (w : Nat) : PyData → Bool
  | .none => true
  | .bool _ => true
  | .int i => decide (i.natAbs.log2 < 100)
  | .str z => PyData.strOk z && decide ((reprText z).length ≤ 100) && decide (z.length ≤ 100)
  | .list ds => decide (ds.length ≤ w) && wfL w ds
  | .tuple ds => decide (ds.length ≤ w) && wfL w ds
  | .dict es => es.isEmpty
def wfL (w : Nat) : List PyData → Bool
  | [] => true
  | d :: ds => wf w d && wfL w ds
end
theorem wfL_iff {w : Nat} : ∀ {ds : List PyData}, wfL w ds = true ↔ ∀ d ∈ ds, wf w d = true
  | [] => by simp [wfL]
  | d :: ds => by
    rw [wfL, Bool.and_eq_true, wfL_iff]
    simp
theorem wf_tup {w : Nat} {ds : List PyData} : wf w (.tuple ds) = true ↔ ds.length ≤ w ∧ ∀ d ∈ ds, wf w d = true := by
  rw [wf, Bool.and_eq_true, decide_eq_true_eq, wfL_iff]
theorem wf_lst {w : Nat} {ds : List PyData} : wf w (.list ds) = true ↔ ds.length ≤ w ∧ ∀ d ∈ ds, wf w d = true := by
  rw [wf, Bool.and_eq_true, decide_eq_true_eq, wfL_iff]
theorem wf_str {w : Nat} {z : Str} (h : wf w (.str z) = true) : PyData.strOk z = true ∧ z.length ≤ 100 := by
  rw [wf, Bool.and_eq_true, Bool.and_eq_true] at h
  exact ⟨h.1.1, of_decide_eq_true h.2⟩
theorem wf_dict {w : Nat} {es : List (PyData × PyData)} (h : wf w (.dict es) = true) : es = [] := by
  rw [wf] at h
  exact List.isEmpty_iff.mp h
/-! ### isinstance -/
def isI : PyData → Bool
  | .int _ => true
  | .bool _ => true
  | _ => false
def isB : PyData → Bool
  | .bool _ => true
  | _ => false
def isS : PyData → Bool
  | .str _ => true
  | _ => false
def isT : PyData → Bool
  | .tuple _ => true
  | _ => false
theorem isi_int {w : Nat} {d : PyData} (h : wf w d = true) : isiD "int" d = some (.bool (isI d)) := by
  cases d with
  | dict es =>
    cases wf_dict h
    have : kitB "dict" "int" = some false := by decide +kernel
    simp [isiD, tyName, potD1, this, isI]
  | none => have : kitB "NoneType" "int" = some false := by decide +kernel
            simp [isiD, tyName, this, isI]
  | bool b => have : kitB "bool" "int" = some true := by decide +kernel
              simp [isiD, tyName, this, isI]
  | int i => have : kitB "int" "int" = some true := by decide +kernel
             simp [isiD, tyName, this, isI]
  | str z => have : kitB "str" "int" = some false := by decide +kernel
             simp [isiD, tyName, this, isI]
  | list l => have : kitB "list" "int" = some false := by decide +kernel
              simp [isiD, tyName, this, isI]
  | tuple l => have : kitB "tuple" "int" = some false := by decide +kernel
               simp [isiD, tyName, this, isI]
theorem isi_bool {w : Nat} {d : PyData} (h : wf w d = true) : isiD "bool" d = some (.bool (isB d)) := by
  cases d with
  | dict es =>
    cases wf_dict h
    have : kitB "dict" "bool" = some false := by decide +kernel
    simp [isiD, tyName, potD1, this, isB]
  | none => have : kitB "NoneType" "bool" = some false := by decide +kernel
            simp [isiD, tyName, this, isB]
  | bool b => have : kitB "bool" "bool" = some true := by decide +kernel
              simp [isiD, tyName, this, isB]
  | int i => have : kitB "int" "bool" = some false := by decide +kernel
             simp [isiD, tyName, this, isB]
  | str z => have : kitB "str" "bool" = some false := by decide +kernel
             simp [isiD, tyName, this, isB]
  | list l => have : kitB "list" "bool" = some false := by decide +kernel
              simp [isiD, tyName, this, isB]
  | tuple l => have : kitB "tuple" "bool" = some false := by decide +kernel
               simp [isiD, tyName, this, isB]
theorem isi_str {w : Nat} {d : PyData} (h : wf w d = true) : isiD "str" d = some (.bool (isS d)) := by
  cases d with
  | dict es =>
    cases wf_dict h
    have : kitB "dict" "str" = some false := by decide +kernel
    simp [isiD, tyName, potD1, this, isS]
  | none => have : kitB "NoneType" "str" = some false := by decide +kernel
            simp [isiD, tyName, this, isS]
  | bool b => have : kitB "bool" "str" = some false := by decide +kernel
              simp [isiD, tyName, this, isS]
  | int i => have : kitB "int" "str" = some false := by decide +kernel
             simp [isiD, tyName, this, isS]
  | str z => have : kitB "str" "str" = some true := by decide +kernel
             simp [isiD, tyName, this, isS]
  | list l => have : kitB "list" "str" = some false := by decide +kernel
              simp [isiD, tyName, this, isS]
  | tuple l => have : kitB "tuple" "str" = some false := by decide +kernel
               simp [isiD, tyName, this, isS]
theorem isi_tup {w : Nat} {d : PyData} (h : wf w d = true) : isiD "tuple" d = some (.bool (isT d)) := by
  cases d with
  | dict es =>
    cases wf_dict h
    have : kitB "dict" "tuple" = some false := by decide +kernel
    simp [isiD, tyName, potD1, this, isT]
  | none => have : kitB "NoneType" "tuple" = some false := by decide +kernel
            simp [isiD, tyName, this, isT]
  | bool b => have : kitB "bool" "tuple" = some false := by decide +kernel
              simp [isiD, tyName, this, isT]
  | int i => have : kitB "int" "tuple" = some false := by decide +kernel
             simp [isiD, tyName, this, isT]
  | str z => have : kitB "str" "tuple" = some false := by decide +kernel
             simp [isiD, tyName, this, isT]
  | list l => have : kitB "list" "tuple" = some false := by decide +kernel
              simp [isiD, tyName, this, isT]
  | tuple l => have : kitB "tuple" "tuple" = some true := by decide +kernel
               simp [isiD, tyName, this, isT]
/-! ### numbers, names -/
def isInt (l : Int) : PyData → Bool
  | .int i => decide (l ≤ i)
  | _ => false
theorem is_integer {w : Nat} {d : PyData} (l : Int) (ps : Pt) (h : wf w d = true) : f_is_integer [d, .int l] ps = some (.bool (isInt l d), ps) := by
  show runF 2 g_is_integer [d, .int l] ps = _
  have e1 := isi_int h
  have e2 := isi_bool h
  have e3 : ∀ i : Int, geI (.int i) (.int l) = some (.bool (decide (l ≤ i))) := fun _ => rfl
  cases d <;> simp [runF, g_is_integer, sRet, eAndV, eNotV, eUn, eVar, startD, bindP, e1, e2, isI, isB, isInt, eOp, e3]
theorem law_whole {w : Nat} {d : PyData} (l : Int) (ps : Pt) (h : wf w d = true) : f__law_whole [d, .int l] ps = some (.bool (isInt l d), ps) := is_integer l ps h
def RES : List Str := [Str.ofString "call", Str.ofString "do", Str.ofString "either", Str.ofString "else", Str.ofString "end", Str.ofString "endless", Str.ofString "form", Str.ofString "frame", Str.ofString "function", Str.ofString "handler", Str.ofString "house", Str.ofString "kind", Str.ofString "limit", Str.ofString "loop", Str.ofString "most", Str.ofString "now", Str.ofString "or", Str.ofString "returns", Str.ofString "room", Str.ofString "shut", Str.ofString "size", Str.ofString "stop", Str.ofString "take", Str.ofString "task", Str.ofString "times"]
def LET : Str := Str.ofString "abcdefghijklmnopqrstuvwxyz"
def nameS (z : Str) : Bool := decide ((1 : Int) ≤ z.length) && (decide ((z.length : Int) ≤ 8) && (!decide (z ∈ RES) && z.cps.toList.all fun c => decide (c ∈ LET.cps.toList)))
def nameOk : PyData → Bool
  | .str z => nameS z
  | _ => false
theorem any_strs (l : List Str) (z : Str) : (l.map PyData.str).any (fun y => PyData.eqv y (.str z)) = decide (z ∈ l) := by
  induction l with
  | nil => simp
  | cons y r ih =>
    rw [List.map_cons, List.any_cons, ih]
    by_cases h : y = z
    · subst h
      simp [PyData.eqv]
    · have h2 : ¬ z = y := fun e => h e.symm
      simp [PyData.eqv, h, h2]
theorem shaped_str {z : Str} (h : PyData.strOk z = true) : SeqAt.shaped (.str z) = true := by
  show (PyData.canLay0 (.str z) && decide ((PyData.str z).depth ≤ 64)) = true
  simp [PyData.canLay0, PyData.depth, h]
theorem lc_letters (z : Str) (x1 : SV) (ps : Pt) (hl : z.length ≤ 100) (L : PyData) (hL : L = .str LET) : eLc (iStrD (eVar 0)) (tName 1) bYes (eOp (inS false) (eVar 1) (eC L)) [1] [.dat (.str z), x1] ps = some (.list (z.cps.toList.map fun c => PyData.bool (decide (c ∈ LET.cps.toList))), ps) := by
  subst hL
  have hlen : z.cps.toList.length ≤ 1000 := by
    have : z.cps.toList.length = z.length := by simp [Str.length]
    omega
  exact lc_enc (e := fun c => .str ⟨#[c]⟩) (xs := z.cps.toList) rfl hlen fun c _ => lcS_at (S1 := [.dat (.str z), .dat (.str ⟨#[c]⟩)]) rfl (eOp_at rfl rfl rfl)
theorem allD_bools {α : Type} (f : α → Bool) (xs : List α) : one allD [.list (xs.map fun x => PyData.bool (f x))] = some (.bool (xs.all f)) := by
  show (bools (xs.map fun x => PyData.bool (f x))).map _ = _
  rw [bools_map]
  simp
theorem chain_len (z : Str) (S0 : Sd) (ps : Pt) (g8 : EG) (h0 : S0[0]? = some (.dat (.str z))) (h8 : g8 S0 ps = some (.int 8, ps)) (hl : z.length ≤ 100) : bChain leI leI (eC (.int 1)) (eCB (one lenD) (aCons (eVar 0) aNil)) g8 S0 ps = some (decide ((1 : Int) ≤ z.length) && decide ((z.length : Int) ≤ 8), ps) := by
  have e1 : lenD (.str z) = some (.int z.length) := by
    show (if decide (z.length ≤ 16777216) then _ else _) = _
    rw [if_pos (decide_eq_true (by omega))]
  have e2 : ∀ i j : Int, leI (.int i) (.int j) = some (.bool (decide (i ≤ j))) := fun _ _ => rfl
  have e3 : eVar 0 S0 ps = some (.str z, ps) := by
    unfold eVar
    rw [h0]
  unfold bChain
  simp only [eC, bindP_some, eCB, aCons_one e3, one, e1, Option.map_some, e2]
  by_cases hz : (1 : Int) ≤ z.length
  · simp only [decide_eq_true hz, h8, bindP_some, Bool.true_and, e2]
  · simp only [decide_eq_false hz, Bool.false_and]
theorem is_name {w : Nat} {d : PyData} (ps : Pt) (h : wf w d = true) : f_is_name [d] ps = some (.bool (nameOk d), ps) := by
  apply run_rt
  show g_is_name [.dat d, .un] ps = _
  have e1 : asB (eUn (isiD "str") (eVar 0)) [.dat d, .un] ps = some (isS d, ps) := asB_at (eUn_at rfl (isi_str h))
  cases hs : isS d with
  | true =>
    cases d with
    | str z =>
      obtain ⟨h1, h2⟩ := wf_str h
      have t1 := bOr_at (h := bNot (bChain leI leI (eC (.int 1)) (eCB (one lenD) (aCons (eVar 0) aNil)) (eC k_MOST_LETTERS))) (bNot_at e1) (fun _ => bNot_at (chain_len z [.dat (.str z), .un] ps (eC k_MOST_LETTERS) rfl rfl h2)) (fun _ => rfl)
      have e3 : inD true (.str z) k_RESERVED = some (.bool (!decide (z ∈ RES))) := by
        show (if SeqAt.shaped (.str z) && SeqAt.shaped k_RESERVED then some (PyData.bool (!((RES.map PyData.str).any fun y => PyData.eqv y (.str z)))) else none) = _
        have hk : SeqAt.shaped k_RESERVED = true := by decide +kernel
        rw [shaped_str h1, hk, any_strs]
        rfl
      have e5 := eAnd_at (eOp_at (g := eVar 0) (h := eC k_RESERVED) (S := [.dat (.str z), .un]) (ps := ps) rfl rfl e3) fun _ => eCB_at (aCons_one (lc_letters z .un ps h2 k_LETTERS rfl)) (allD_bools _ _)
      unfold g_is_name
      cases hc : (decide ((1 : Int) ≤ z.length) && decide ((z.length : Int) ≤ 8)) with
      | true =>
        rw [hc] at t1
        rw [sSeq_nx (S1 := [.dat (.str z), .un]) (p := ps) (by rw [sIf_at t1]; rfl), sRet_at e5]
        have : nameS z = (!decide (z ∈ RES) && z.cps.toList.all fun c => decide (c ∈ LET.cps.toList)) := by
          unfold nameS
          rw [← Bool.and_assoc, hc, Bool.true_and]
        rw [nameOk, this]
      | false =>
        rw [hc] at t1
        rw [sSeq_rt (d := .bool false) (p := ps) (by rw [sIf_at t1]; rfl)]
        have : nameS z = false := by
          unfold nameS
          rw [← Bool.and_assoc, hc, Bool.false_and]
        rw [nameOk, this]
    | _ => cases hs
  | false =>
    have hn : nameOk d = false := by
      cases d <;> first | rfl | cases hs
    rw [hs] at e1
    have t1 := bOr_at (h := bNot (bChain leI leI (eC (.int 1)) (eCB (one lenD) (aCons (eVar 0) aNil)) (eC k_MOST_LETTERS))) (c := true) (p2 := ps) (bNot_at e1) (fun z => by cases z) (fun _ => rfl)
    unfold g_is_name
    rw [sSeq_rt (d := .bool false) (p := ps) (by rw [sIf_at t1]; rfl), hn]
end K71

set_option Elab.async false
set_option linter.all false
set_option maxRecDepth 100000
set_option maxHeartbeats 1000000
/-! k71, the plain law: names, pairs and contexts, by the program and by the law's own words. -/
namespace K71
open PySem L2 DL
local instance : TBL := ⟨[]⟩
def txtA : Str := Str.ofString "call do either else end endless form frame function handler house kind limit loop most now or returns"
def txtB : Str := Str.ofString " room shut size stop take task times"
theorem split_res : Txt.split (txtA ++ txtB) (Str.ofString " ") = RES := by decide +kernel
theorem law_words (ps : Pt) : f__law_words [] ps = some (.list (RES.map .str), ps) := by
  apply run_rt
  show g__law_words [.un] ps = _
  unfold g__law_words
  have e1 : addD (.str txtA) (.str txtB) = some (.str (txtA ++ txtB)) := by
    have h : (txtA.length + txtB.length ≤ 16777216) := by decide +kernel
    show orD addI (orD addS (orD addL addT)) _ _ = _
    simp [orD, addI, onI2, addS, h]
  have e2 : splitD (.str (txtA ++ txtB)) (.str (Str.ofString " ")) = some (.list (RES.map .str)) := by
    have h : (!((Str.ofString " ").length == 0) && decide ((txtA ++ txtB).length + 2 ≤ 16777216)) = true := by decide +kernel
    show (if (!((Str.ofString " ").length == 0) && decide ((txtA ++ txtB).length + 2 ≤ 16777216)) = true then some (PyData.list ((Txt.split (txtA ++ txtB) (Str.ofString " ")).map .str)) else none) = _
    rw [if_pos h, split_res]
  show sSeq (sSet 0 (eC (.str txtA))) (sRet (eOp splitD (eOp addD (eVar 0) (eC (.str txtB))) (eC (.str (Str.ofString " "))))) [.un] ps = _
  rw [sSeq_nx (sSet_at (g := eC (.str txtA)) rfl)]
  exact sRet_at (eOp_at (eOp_at (g := eVar 0) (h := eC (.str txtB)) rfl rfl e1) (h := eC (.str (Str.ofString " "))) rfl e2)
theorem shaped_res : SeqAt.shaped (.list (RES.map .str)) = true := by decide +kernel
theorem law_is_name {w : Nat} {d : PyData} (ps : Pt) (h : wf w d = true) : f__law_is_name [d] ps = some (.bool (nameOk d), ps) := by
  apply run_rt
  show g__law_is_name [.dat d, .un] ps = _
  have e1 : asB (eUn (isiD "str") (eVar 0)) [.dat d, .un] ps = some (isS d, ps) := asB_at (eUn_at rfl (isi_str h))
  cases hs : isS d with
  | true =>
    cases d with
    | str z =>
      obtain ⟨h1, h2⟩ := wf_str h
      have e3 : inD false (.str z) (.list (RES.map .str)) = some (.bool (decide (z ∈ RES))) := by
        show (if SeqAt.shaped (.str z) && SeqAt.shaped (.list (RES.map .str)) then some (PyData.bool ((RES.map PyData.str).any fun y => PyData.eqv y (.str z))) else none) = _
        rw [shaped_str h1, shaped_res, any_strs]
        rfl
      have e2 := eOp_at (g := eVar 0) (S := [.dat (.str z), .un]) (ps := ps) rfl (eCall_at (gs := aNil) rfl (law_words ps)) e3
      have t1 := bOr_at (bNot_at e1) (fun _ => bOr_at (bNot_at (chain_len z [.dat (.str z), .un] ps (eC (.int 8)) rfl rfl h2)) (fun _ => asB_at e2) (fun _ => rfl)) (fun _ => rfl)
      have e5 := eCB_at (aCons_one (lc_letters z .un ps h2 (.str LET) rfl)) (allD_bools _ _)
      unfold g__law_is_name
      have hn : nameS z = ((decide ((1 : Int) ≤ z.length) && decide ((z.length : Int) ≤ 8)) && (!decide (z ∈ RES) && z.cps.toList.all fun c => decide (c ∈ LET.cps.toList))) := by
        unfold nameS
        rw [← Bool.and_assoc]
      cases hc : (decide ((1 : Int) ≤ z.length) && decide ((z.length : Int) ≤ 8)) with
      | true =>
        rw [hc] at t1
        cases hr : decide (z ∈ RES) with
        | true =>
          rw [hr] at t1
          rw [sSeq_rt (d := .bool false) (p := ps) (by rw [sIf_at t1]; rfl), nameOk, hn, hc, hr]
          rfl
        | false =>
          rw [hr] at t1
          rw [sSeq_nx (S1 := [.dat (.str z), .un]) (p := ps) (by rw [sIf_at t1]; rfl)]
          rw [nameOk, hn, hc, hr]
          exact sRet_at e5
      | false =>
        rw [hc] at t1
        rw [sSeq_rt (d := .bool false) (p := ps) (by rw [sIf_at t1]; rfl), nameOk, hn, hc]
        rfl
    | _ => cases hs
  | false =>
    have hn : nameOk d = false := by
      cases d <;> first | rfl | cases hs
    rw [hs] at e1
    have t1 := bOr_at (h := bOr (bNot (bChain leI leI (eC (.int 1)) (eCB (one lenD) (aCons (eVar 0) aNil)) (eC (.int 8)))) (asB (eOp (inD false) (eVar 0) (eCall f__law_words aNil)))) (c := true) (p2 := ps) (bNot_at e1) (fun z => by cases z) (fun _ => rfl)
    unfold g__law_is_name
    rw [sSeq_rt (d := .bool false) (p := ps) (by rw [sIf_at t1]; rfl), hn]
/-! ### rising names -/
def ltB (a b : Str) : Bool := decide (a.cps.toList < b.cps.toList)
def ascS (zs : List Str) : Bool := (zs.zip (zs.drop 1)).all fun p => ltB p.1 p.2
theorem is_ascending (zs : List Str) (ps : Pt) (hl : zs.length ≤ 1000) : f_is_ascending [.list (zs.map .str)] ps = some (.bool (ascS zs), ps) := by
  apply run_rt
  show g_is_ascending [.dat (.list (zs.map .str)), .un, .un] ps = _
  have hcut : cutL (zs.map PyData.str) (some 1) none = (zs.drop 1).map PyData.str := by
    unfold cutL
    rw [show HT.sIx (zs.map PyData.str).length 0 (some 1) = min 1 (zs.map PyData.str).length from rfl, show HT.sIx (zs.map PyData.str).length (zs.map PyData.str).length none = (zs.map PyData.str).length from rfl]
    cases zs with
    | nil => rfl
    | cons z r =>
      simp
      rw [List.take_of_length_le (by simp)]
  have hz : zipD (zs.map PyData.str) ((zs.drop 1).map PyData.str) = (zs.zip (zs.drop 1)).map fun p => .tuple [.str p.1, .str p.2] := by
    unfold zipD
    rw [List.zip_map, List.map_map]
    rfl
  have h1 : iZipD (aCons (eVar 0) (aCons (eSl (eVar 0) (oSome (eC (.int 1))) oNone) aNil)) [.dat (.list (zs.map .str)), .un, .un] ps = some ((zs.zip (zs.drop 1)).map fun p => .tuple [.str p.1, .str p.2], ps) := by
    have e1 : eSl (eVar 0) (oSome (eC (.int 1))) oNone [.dat (.list (zs.map .str)), .un, .un] ps = some (.list ((zs.drop 1).map .str), ps) := by
      simp [eSl, eVar, oSome, eC, oNone, bindP, slD, hcut]
    unfold iZipD
    rw [aCons_two (x := .list (zs.map .str)) (p1 := ps) rfl e1]
    simp only [hz]
  have h2 := lc_enc (t := tTup 2 (tlCons (tName 1) (tlCons (tName 2) tlNil))) (test := bYes) (elt := eOp ltS (eVar 1) (eVar 2)) (vs := [1, 2]) (g := fun p : Str × Str => PyData.bool (ltB p.1 p.2)) h1 (by rw [List.length_zip]; omega) fun p _ => lcS_at (S1 := [.dat (.list (zs.map .str)), .dat (.str p.1), .dat (.str p.2)]) rfl (eOp_at rfl rfl rfl)
  exact sRet_at (eCB_at (aCons_one h2) (allD_bools _ _))
theorem asc_pw : ∀ zs : List Str, ascS zs = true ↔ zs.Pairwise (fun a b => ltB a b = true)
  | [] => by simp [ascS]
  | [x] => by simp [ascS]
  | x :: y :: r => by
    have ih := asc_pw (y :: r)
    have e : ascS (x :: y :: r) = (ltB x y && ascS (y :: r)) := by simp [ascS]
    rw [e, Bool.and_eq_true, ih]
    constructor
    · rintro ⟨h1, h2⟩
      rw [List.pairwise_cons]
      refine ⟨fun z hz => ?_, h2⟩
      rcases List.mem_cons.mp hz with rfl | hz
      · exact h1
      · have h3 := (List.pairwise_cons.mp h2).1 z hz
        unfold ltB at h1 h3 ⊢
        rw [decide_eq_true_eq] at h1 h3 ⊢
        exact List.lt_trans h1 h3
    · intro h
      obtain ⟨h1, h2⟩ := List.pairwise_cons.mp h
      exact ⟨h1 y List.mem_cons_self, h2⟩
theorem lt_iff {a b : Str} : ltB a b = true ↔ leS a b = true ∧ a ≠ b := by
  rw [leS_iff]
  unfold ltB
  rw [decide_eq_true_eq]
  constructor
  · intro h
    refine ⟨List.le_of_lt h, fun z => ?_⟩
    subst z
    exact List.lt_irrefl _ h
  · rintro ⟨h1, h2⟩
    rcases List.le_iff_lt_or_eq.mp h1 with h | h
    · exact h
    · exact absurd (str_ext h) h2
theorem once_nodup : ∀ (zs : List Str), (once zs).length = zs.length ↔ zs.Nodup := by
  intro zs
  have key : ∀ (ys acc : List Str), acc.Nodup → ((ys.foldl (fun acc z => if z ∈ acc then acc else acc ++ [z]) acc).length = acc.length + ys.length ↔ (acc ++ ys).Nodup) ∧ (ys.foldl (fun acc z => if z ∈ acc then acc else acc ++ [z]) acc).length ≤ acc.length + ys.length := by
    intro ys
    induction ys with
    | nil => intro acc h; simp [h]
    | cons y r ih =>
      intro acc h
      rw [List.foldl_cons]
      by_cases hy : y ∈ acc
      · rw [if_pos hy]
        obtain ⟨_, i2⟩ := ih acc h
        rw [List.length_cons]
        refine ⟨⟨fun z => by omega, fun z => ?_⟩, by omega⟩
        rw [List.nodup_append] at z
        exact absurd rfl (z.2.2 y hy y List.mem_cons_self)
      · rw [if_neg hy]
        have hn : (acc ++ [y]).Nodup := by
          rw [List.nodup_append]
          refine ⟨h, by simp, fun a ha b hb z => ?_⟩
          rw [List.mem_singleton] at hb
          subst hb z
          exact hy ha
        obtain ⟨i1, i2⟩ := ih (acc ++ [y]) hn
        rw [List.length_append, List.length_singleton, List.append_assoc, List.singleton_append] at i1
        rw [List.length_append, List.length_singleton] at i2
        rw [List.length_cons]
        refine ⟨⟨fun z => i1.mp (by omega), fun z => ?_⟩, by omega⟩
        have := i1.mpr z
        omega
  have := (key zs [] List.nodup_nil).1
  simpa [once] using this
/-- sorted, and none twice: the same as rising -/
theorem asc_same (zs : List Str) : (decide (zs = zs.mergeSort leS) && decide ((once zs).length = zs.length)) = ascS zs := by
  have h : (zs = zs.mergeSort leS ∧ (once zs).length = zs.length) ↔ ascS zs = true := by
    rw [asc_pw, once_nodup]
    constructor
    · rintro ⟨h1, h2⟩
      have h3 := List.pairwise_mergeSort (le := leS) (fun a b c h1 h2 => leS_trans h1 h2) leS_total zs
      rw [← h1] at h3
      exact (List.pairwise_and_iff.mpr ⟨h3, h2⟩).imp fun z => lt_iff.mpr z
    · intro h1
      have h2 := List.pairwise_and_iff.mp (h1.imp fun z => lt_iff.mp z)
      refine ⟨?_, h2.2⟩
      exact List.Perm.eq_of_pairwise (fun a b _ _ => leS_anti) h2.1 (List.pairwise_mergeSort (le := leS) (fun a b c h1 h2 => leS_trans h1 h2) leS_total zs) (List.mergeSort_perm zs leS).symm
  cases hq : ascS zs with
  | true =>
    obtain ⟨h1, h2⟩ := h.mpr hq
    rw [decide_eq_true h1, decide_eq_true h2]
    rfl
  | false =>
    rw [← Bool.decide_and, decide_eq_false_iff_not]
    intro z
    rw [h.mp z] at hq
    cases hq
end K71

set_option Elab.async false
set_option linter.all false
set_option maxRecDepth 100000
set_option maxHeartbeats 1000000
/-! k71, the plain law: pairs and contexts. -/
namespace K71
open PySem L2 DL
local instance : TBL := ⟨[]⟩
theorem sh_int (i : Int) : SeqAt.shaped (.int i) = true := by
  show (PyData.canLay0 (.int i) && decide ((PyData.int i).depth ≤ 64)) = true
  simp [PyData.canLay0, PyData.depth]
theorem ne_int (i j : Int) : neD (.int i) (.int j) = some (.bool (decide (i ≠ j))) := by
  show neD0 (.int i) (.int j) = _
  unfold neD0
  rw [sh_int, sh_int]
  by_cases h : i = j <;> simp [PyData.eqv, h]
theorem eq_int (i j : Int) : eqD (.int i) (.int j) = some (.bool (decide (i = j))) := by
  show eqD0 (.int i) (.int j) = _
  unfold eqD0
  rw [sh_int, sh_int]
  by_cases h : i = j <;> simp [PyData.eqv, h]
theorem shaped_strs {zs : List Str} (h : ∀ z ∈ zs, PyData.strOk z = true) : SeqAt.shaped (.list (zs.map .str)) = true := by
  have h1 : PyData.canLayAll0 (zs.map .str) = true := by
    induction zs with
    | nil => simp [PyData.canLayAll0]
    | cons z r ih =>
      rw [List.map_cons, PyData.canLayAll0, ih fun y hy => h y (List.mem_cons_of_mem _ hy)]
      simp [PyData.canLay0, h z List.mem_cons_self]
  have h2 : ∀ ys : List Str, PyData.depthAll (ys.map .str) ≤ 1 := by
    intro ys
    induction ys with
    | nil => simp [PyData.depthAll]
    | cons z r ih =>
      rw [List.map_cons, PyData.depthAll]
      simp only [PyData.depth]
      omega
  have h3 := h2 zs
  show (PyData.canLay0 (.list (zs.map .str)) && decide ((PyData.list (zs.map .str)).depth ≤ 64)) = true
  rw [show PyData.canLay0 (.list (zs.map .str)) = PyData.canLayAll0 (zs.map .str) by simp [PyData.canLay0], h1]
  rw [Bool.true_and]
  apply decide_eq_true
  rw [PyData.depth]
  omega
theorem eqv_strs : ∀ zs ys : List Str, PyData.eqvAll (zs.map .str) (ys.map .str) = decide (zs = ys)
  | [], [] => by simp [PyData.eqvAll]
  | [], y :: t => by simp [PyData.eqvAll]
  | x :: s, [] => by simp [PyData.eqvAll]
  | x :: s, y :: t => by
    rw [List.map_cons, List.map_cons, PyData.eqvAll, eqv_strs s t]
    by_cases h1 : x = y <;> by_cases h2 : s = t <;> simp [PyData.eqv, h1, h2]
theorem eq_strs {zs ys : List Str} (h1 : ∀ z ∈ zs, PyData.strOk z = true) (h2 : ∀ z ∈ ys, PyData.strOk z = true) : eqD (.list (zs.map .str)) (.list (ys.map .str)) = some (.bool (decide (zs = ys))) := by
  show eqD0 _ _ = _
  unfold eqD0
  rw [shaped_strs h1, shaped_strs h2]
  simp only [PyData.eqv, eqv_strs]
  rfl
theorem strs_map (zs : List Str) : strsOf (zs.map .str) = some zs := by
  induction zs with
  | nil => rfl
  | cons z r ih =>
    show (strsOf (r.map .str)).map (z :: ·) = _
    rw [ih]
    rfl
theorem sort_strs {zs : List Str} (h : zs.length ≤ 60) : one sortSD [.list (zs.map .str)] = some (.list ((zs.mergeSort leS).map .str)) := by
  show sortSD (.list (zs.map .str)) = _
  simp only [sortSD, strs_map]
  rw [if_pos (decide_eq_true (by omega))]
theorem lenset_strs {zs : List Str} (h : zs.length ≤ 60) : lenSetD (.list (zs.map .str)) = some (.int (once zs).length) := by
  simp only [lenSetD, strs_map]
  rw [if_pos (decide_eq_true (by omega))]
/-! ### pairs -/
def isPair : PyData → Bool
  | .tuple [_, _] => true
  | _ => false
def fstD : PyData → PyData
  | .tuple (a :: _) => a
  | d => d
def sndD : PyData → PyData
  | .tuple (_ :: b :: _) => b
  | d => d
theorem pair_inv {d : PyData} (h : isPair d = true) : ∃ a b, d = .tuple [a, b] := by
  unfold isPair at h
  split at h
  · exact ⟨_, _, rfl⟩
  · cases h
def pairOk (d : PyData) : Bool := isPair d && (nameOk (fstD d) && isInt 1 (sndD d))
def nm (d : PyData) : Str := match fstD d with
  | .str z => z
  | _ => Str.empty
theorem name_inv {a : PyData} (h : nameOk a = true) : ∃ z, a = .str z := by
  cases a with
  | str z => exact ⟨z, rfl⟩
  | _ => cases h
/-- tuple, of two: the test that both use -/
theorem two_test {w : Nat} {d : PyData} {i : Nat} {S0 : Sd} {ps : Pt} (h : wf w d = true) (hi : S0[i]? = some (.dat d)) : bOr (bNot (asB (eUn (isiD "tuple") (eVar i)))) (asB (eOp neD (eCB (one lenD) (aCons (eVar i) aNil)) (eC (.int 2)))) S0 ps = some (!isPair d, ps) := by
  have hv : eVar i S0 ps = some (d, ps) := by
    unfold eVar
    rw [hi]
  have e1 := bNot_at (asB_at (eUn_at hv (isi_tup h)))
  cases d with
  | tuple ds =>
    have e2 := asB_at (eOp_at (eCB_at (aCons_one hv) (show one lenD [.tuple ds] = some (.int ds.length) from rfl)) (h := eC (.int 2)) rfl (ne_int ds.length 2))
    have e3 := bOr_at e1 (fun _ => e2) (fun z => by cases z)
    rw [e3]
    match ds with
    | [] => rfl
    | [a] => rfl
    | [a, b] => rfl
    | a :: b :: c :: r =>
      have : decide (((a :: b :: c :: r).length : Int) ≠ 2) = true := by
        rw [decide_eq_true_eq]
        simp only [List.length_cons]
        omega
      rw [this]
      rfl
  | _ => exact bOr_at (c := true) (p2 := ps) e1 (fun z => by cases z) (fun _ => rfl)
abbrev pbody : SG := sIf (bOr (bNot (asB (eUn (isiD "tuple") (eVar 1)))) (bOr (asB (eOp neD (eCB (one lenD) (aCons (eVar 1) aNil)) (eC (.int 2)))) (bOr (bNot (asB (eCall f_is_name (aCons (eOp ixD (eVar 1) (eC (.int 0))) aNil)))) (bNot (asB (eCall f_is_integer (aCons (eOp ixD (eVar 1) (eC (.int 1))) (aCons (eC (.int 1)) aNil)))))))) (sRet (eC (.bool false))) sNil
theorem pturn {w : Nat} {d : PyData} (x : SV) (ps : Pt) (h : wf w d = true) : pbody [x, .dat d] ps = if pairOk d then some (.nx [x, .dat d], ps) else some (.rt (.bool false), ps) := by
  have e1 : asB (eUn (isiD "tuple") (eVar 1)) [x, .dat d] ps = some (isT d, ps) := asB_at (eUn_at rfl (isi_tup h))
  have t : bOr (bNot (asB (eUn (isiD "tuple") (eVar 1)))) (bOr (asB (eOp neD (eCB (one lenD) (aCons (eVar 1) aNil)) (eC (.int 2)))) (bOr (bNot (asB (eCall f_is_name (aCons (eOp ixD (eVar 1) (eC (.int 0))) aNil)))) (bNot (asB (eCall f_is_integer (aCons (eOp ixD (eVar 1) (eC (.int 1))) (aCons (eC (.int 1)) aNil))))))) [x, .dat d] ps = some (!pairOk d, ps) := by
    cases d with
    | tuple ds =>
      have e2 : asB (eOp neD (eCB (one lenD) (aCons (eVar 1) aNil)) (eC (.int 2))) [x, .dat (.tuple ds)] ps = some (decide ((ds.length : Int) ≠ 2), ps) := asB_at (eOp_at (eCB_at (aCons_one (g1 := eVar 1) rfl) (show one lenD [.tuple ds] = some (.int ds.length) from rfl)) (h := eC (.int 2)) rfl (ne_int ds.length 2))
      by_cases hl : ds.length = 2
      · match ds, hl with
        | [a, b], _ =>
          have wa := (wf_tup.mp h).2 a (by simp)
          have wb := (wf_tup.mp h).2 b (by simp)
          have e3 : asB (eCall f_is_name (aCons (eOp ixD (eVar 1) (eC (.int 0))) aNil)) [x, .dat (.tuple [a, b])] ps = some (nameOk a, ps) := asB_at (eCall_at (aCons_one (g1 := eOp ixD (eVar 1) (eC (.int 0))) (x := a) (p1 := ps) rfl) (is_name ps wa))
          have e4 : asB (eCall f_is_integer (aCons (eOp ixD (eVar 1) (eC (.int 1))) (aCons (eC (.int 1)) aNil))) [x, .dat (.tuple [a, b])] ps = some (isInt 1 b, ps) := asB_at (eCall_at (aCons_two (g1 := eOp ixD (eVar 1) (eC (.int 1))) (g2 := eC (.int 1)) (x := b) (y := .int 1) (p1 := ps) (p2 := ps) rfl rfl) (is_integer 1 ps wb))
          rw [bOr_at (bNot_at e1) (fun _ => bOr_at e2 (fun _ => bOr_at (bNot_at e3) (fun _ => bNot_at e4) (fun _ => rfl)) (fun _ => rfl)) (fun _ => rfl)]
          have q : pairOk (.tuple [a, b]) = (nameOk a && isInt 1 b) := rfl
          rw [q]
          cases nameOk a <;> cases isInt 1 b <;> rfl
      · have hq : pairOk (.tuple ds) = false := by
          unfold pairOk isPair
          match ds with
          | [] => rfl
          | [a] => rfl
          | [a, b] => exact absurd rfl hl
          | a :: b :: c :: r => rfl
        have hne : decide ((ds.length : Int) ≠ 2) = true := by
          rw [decide_eq_true_eq]
          omega
        rw [hne] at e2
        rw [bOr_at (bNot_at e1) (fun _ => bOr_at (c := true) (p2 := ps) e2 (fun z => by cases z) (fun _ => rfl)) (fun _ => rfl), hq]
        rfl
    | _ => exact bOr_at (c := true) (p2 := ps) (bNot_at e1) (fun z => by cases z) (fun _ => rfl)
  rw [pbody, sIf_at t]
  cases pairOk d <;> rfl
theorem ploop {w : Nat} (x : SV) (ps : Pt) : ∀ (ds : List PyData) (a : SV), (∀ d ∈ ds, wf w d = true) → ∃ b, forGo (tName 1) pbody ds [x, a] ps = if ds.all pairOk then some (.nx [x, b], ps) else some (.rt (.bool false), ps)
  | [], a, _ => ⟨a, rfl⟩
  | d :: ds, a, h => by
    have h1 := pturn x ps (h d List.mem_cons_self)
    obtain ⟨b, h2⟩ := ploop x ps ds (.dat d) fun e he => h e (List.mem_cons_of_mem _ he)
    refine ⟨b, ?_⟩
    unfold forGo
    show (match pbody [x, .dat d] ps with
      | some (.nx S1, p) => forGo (tName 1) pbody ds S1 p
      | some (.ct S1, p) => forGo (tName 1) pbody ds S1 p
      | some (.bk S1, p) => some (.nx S1, p)
      | some (.rt d, p) => some (.rt d, p)
      | none => none) = _
    rw [h1, List.all_cons]
    cases pairOk d with
    | true => exact h2
    | false => rfl
def pairsOk : PyData → Bool
  | .tuple ds => ds.all pairOk && ascS (ds.map nm)
  | _ => false
theorem fst_nm {d : PyData} (h : pairOk d = true) : ixD d (.int 0) = some (.str (nm d)) := by
  unfold pairOk at h
  rw [Bool.and_eq_true, Bool.and_eq_true] at h
  obtain ⟨a, b, rfl⟩ := pair_inv h.1
  obtain ⟨z, hz⟩ := name_inv h.2.1
  have hz' : a = .str z := hz
  subst hz'
  rfl
theorem lc_names {ds : List PyData} (i : Nat) (vs : List Nat) (S0 : Sd) (ps : Pt) (hv : ∀ d, tName i d (wipeD S0 vs) = some ((wipeD S0 vs).set i (.dat d))) (hi : i < (wipeD S0 vs).length) (h0 : iOf (eVar 0) S0 ps = some (ds, ps)) (hl : ds.length ≤ 1000) (h : ∀ d ∈ ds, pairOk d = true) : eLc (iOf (eVar 0)) (tName i) bYes (eOp ixD (eVar i) (eC (.int 0))) vs S0 ps = some (.list ((ds.map nm).map .str), ps) := by
  have e : ds.map (fun d => d) = ds := List.map_id ds
  rw [lc_enc (e := fun d => d) (xs := ds) (g := fun d => .str (nm d)) (by rw [e]; exact h0) hl fun d hd => lcS_at (hv d) (eOp_at (x := d) (y := .int 0) (p := ps) (p2 := ps) ?_ rfl (fst_nm (h d hd)))]
  · rw [List.map_map]
    rfl
  · unfold eVar
    rw [List.getElem?_set_self hi]
theorem are_pairs {w : Nat} {d : PyData} (ps : Pt) (h : wf w d = true) (hw : w ≤ 60) : f_are_pairs [d] ps = some (.bool (pairsOk d), ps) := by
  apply run_rt
  show g_are_pairs [.dat d, .un] ps = _
  have t1 : bNot (asB (eUn (isiD "tuple") (eVar 0))) [.dat d, .un] ps = some (!isT d, ps) := bNot_at (asB_at (eUn_at rfl (isi_tup h)))
  unfold g_are_pairs
  cases d with
  | tuple ds =>
    obtain ⟨hl, hwf⟩ := wf_tup.mp h
    obtain ⟨b, hb⟩ := ploop (w := w) (.dat (.tuple ds)) ps ds .un hwf
    rw [sSeq_nx (S1 := [.dat (.tuple ds), .un]) (p := ps) (by rw [sIf_at t1]; rfl)]
    have hf : sFor (iOf (eVar 0)) (tName 1) pbody [.dat (.tuple ds), .un] ps = _ := hb
    cases ha : ds.all pairOk with
    | true =>
      rw [ha] at hf
      rw [sSeq_nx (S1 := [.dat (.tuple ds), b]) (p := ps) hf]
      have hall : ∀ e ∈ ds, pairOk e = true := List.all_eq_true.mp ha
      have e1 := lc_names (ds := ds) 1 [1] [.dat (.tuple ds), b] ps (fun _ => rfl) (by simp [wipeD]) rfl (by omega) hall
      rw [sRet_at (eCall_at (aCons_one e1) (is_ascending (ds.map nm) ps (by rw [List.length_map]; omega)))]
      show _ = some (OutS.rt (.bool (ds.all pairOk && ascS (ds.map nm))), ps)
      rw [ha, Bool.true_and]
    | false =>
      rw [ha] at hf
      rw [sSeq_rt (d := .bool false) (p := ps) hf]
      show _ = some (OutS.rt (.bool (ds.all pairOk && ascS (ds.map nm))), ps)
      rw [ha, Bool.false_and]
  | _ => exact sSeq_rt (by rw [sIf_at t1]; rfl)
/-! ### the law's own -/
theorem law_is_pair {w : Nat} {d : PyData} (ps : Pt) (h : wf w d = true) : f__law_is_pair [d] ps = some (.bool (isPair d), ps) := by
  apply run_rt
  show g__law_is_pair [.dat d] ps = _
  unfold g__law_is_pair
  have e1 : eUn (isiD "tuple") (eVar 0) [.dat d] ps = some (.bool (isT d), ps) := eUn_at rfl (isi_tup h)
  cases d with
  | tuple ds =>
    have e2 : eOp eqD (eCB (one lenD) (aCons (eVar 0) aNil)) (eC (.int 2)) [.dat (.tuple ds)] ps = some (.bool (decide ((ds.length : Int) = 2)), ps) := eOp_at (eCB_at (aCons_one (g1 := eVar 0) rfl) (show one lenD [.tuple ds] = some (.int ds.length) from rfl)) (h := eC (.int 2)) rfl (eq_int ds.length 2)
    rw [sRet_at (eAnd_at e1 fun _ => e2)]
    match ds with
    | [] => rfl
    | [a] => rfl
    | [a, b] => rfl
    | a :: b :: c :: r =>
      have : decide (((a :: b :: c :: r).length : Int) = 2) = false := by
        rw [decide_eq_false_iff_not]
        simp only [List.length_cons]
        omega
      rw [this]
      rfl
  | _ => exact sRet_at (eAnd_at (c := false) e1 fun z => by cases z)
theorem lc_same {ds : List PyData} {f : PyData → Bool} {it : AG} {i : Nat} {elt : EG} {vs : List Nat} {S0 : Sd} {ps : Pt} (hi : it S0 ps = some (ds, ps)) (hl : ds.length ≤ 1000) (h : ∀ d ∈ ds, elt ((wipeD S0 vs).set i (.dat d)) ps = some (.bool (f d), ps)) : eCB (one allD) (aCons (eLc it (tName i) bYes elt vs) aNil) S0 ps = some (.bool (ds.all f), ps) := by
  have e : ds.map (fun d => d) = ds := List.map_id ds
  exact eCB_at (aCons_one (lc_enc (e := fun d => d) (xs := ds) (g := fun d => .bool (f d)) (by rw [e]; exact hi) hl fun d hd => lcS_at rfl (h d hd))) (allD_bools f ds)
theorem all_split (ds : List PyData) : (ds.all isPair && ds.all fun d => nameOk (fstD d) && isInt 1 (sndD d)) = ds.all pairOk := by
  induction ds with
  | nil => rfl
  | cons d r ih =>
    simp only [List.all_cons, ← ih, pairOk]
    cases isPair d <;> cases nameOk (fstD d) <;> cases isInt 1 (sndD d) <;> simp
theorem law_are_pairs {w : Nat} {d : PyData} (ps : Pt) (h : wf w d = true) (hw : w ≤ 60) : f__law_are_pairs [d] ps = some (.bool (pairsOk d), ps) := by
  apply run_rt
  show g__law_are_pairs [.dat d, .un, .un] ps = _
  have t1 : bNot (asB (eUn (isiD "tuple") (eVar 0))) [.dat d, .un, .un] ps = some (!isT d, ps) := bNot_at (asB_at (eUn_at rfl (isi_tup h)))
  unfold g__law_are_pairs
  cases d with
  | tuple ds =>
    obtain ⟨hl, hwf⟩ := wf_tup.mp h
    have hp : pairsOk (.tuple ds) = (ds.all pairOk && ascS (ds.map nm)) := rfl
    have e1 := lc_same (f := isPair) (ds := ds) (it := iOf (eVar 0)) (i := 2) (vs := [2]) (elt := eCall f__law_is_pair (aCons (eVar 2) aNil)) (S0 := [.dat (.tuple ds), .un, .un]) (ps := ps) rfl (by omega) fun d hd => eCall_at (aCons_one (g1 := eVar 2) rfl) (law_is_pair ps (hwf d hd))
    have t2 := bOr_at t1 (fun _ => bNot_at (asB_at e1)) (fun z => by cases z)
    cases h1 : ds.all isPair with
    | false =>
      rw [h1] at t2
      rw [sSeq_rt (d := .bool false) (p := ps) (by rw [sIf_at t2]; rfl), hp, ← all_split, h1]
      rfl
    | true =>
      rw [h1] at t2
      rw [sSeq_nx (S1 := [.dat (.tuple ds), .un, .un]) (p := ps) (by rw [sIf_at t2]; rfl)]
      have hpair := List.all_eq_true.mp h1
      have e2 := lc_same (f := fun d => nameOk (fstD d) && isInt 1 (sndD d)) (ds := ds) (it := iOf (eVar 0)) (i := 2) (vs := [2]) (elt := eAndV (eCall f__law_is_name (aCons (eOp ixD (eVar 2) (eC (.int 0))) aNil)) (eCall f__law_whole (aCons (eOp ixD (eVar 2) (eC (.int 1))) (aCons (eC (.int 1)) aNil)))) (S0 := [.dat (.tuple ds), .un, .un]) (ps := ps) rfl (by omega) fun d hd => by
        obtain ⟨a, b, rfl⟩ := pair_inv (hpair d hd)
        have wa := (wf_tup.mp (hwf _ hd)).2 a (by simp)
        have wb := (wf_tup.mp (hwf _ hd)).2 b (by simp)
        exact eAnd_at (eCall_at (aCons_one (g1 := eOp ixD (eVar 2) (eC (.int 0))) (x := a) (p1 := ps) rfl) (law_is_name ps wa)) fun _ => eCall_at (aCons_two (g1 := eOp ixD (eVar 2) (eC (.int 1))) (g2 := eC (.int 1)) (x := b) (y := .int 1) (p1 := ps) (p2 := ps) rfl rfl) (law_whole 1 ps wb)
      have t3 := bNot_at (asB_at e2)
      cases h2 : ds.all fun d => nameOk (fstD d) && isInt 1 (sndD d) with
      | false =>
        rw [h2] at t3
        rw [sSeq_rt (d := .bool false) (p := ps) (by rw [sIf_at t3]; rfl), hp, ← all_split, h1, h2]
        rfl
      | true =>
        rw [h2] at t3
        rw [sSeq_nx (S1 := [.dat (.tuple ds), .un, .un]) (p := ps) (by rw [sIf_at t3]; rfl)]
        have ha : ds.all pairOk = true := by rw [← all_split, h1, h2]; rfl
        have hall : ∀ e ∈ ds, pairOk e = true := List.all_eq_true.mp ha
        have e3 := lc_names (ds := ds) 2 [2] [.dat (.tuple ds), .un, .un] ps (fun _ => rfl) (by simp [wipeD]) rfl (by omega) hall
        rw [sSeq_nx (sSet_at e3)]
        have hok : ∀ z ∈ ds.map nm, PyData.strOk z = true := fun z hz => by
          obtain ⟨d, hd, rfl⟩ := List.mem_map.mp hz
          have hq := hall d hd
          unfold pairOk at hq
          rw [Bool.and_eq_true, Bool.and_eq_true] at hq
          obtain ⟨a, b, rfl⟩ := pair_inv hq.1
          obtain ⟨y, hy⟩ := name_inv hq.2.1
          have hy' : a = .str y := hy
          subst hy'
          exact (wf_str ((wf_tup.mp (hwf _ hd)).2 (.str y) (by simp))).1
        have hlen : (ds.map nm).length ≤ 60 := by rw [List.length_map]; omega
        have s1 : one sortSD [.list ((ds.map nm).map .str)] = some (.list (((ds.map nm).mergeSort leS).map .str)) := sort_strs (by omega)
        have s2 : lenSetD (.list ((ds.map nm).map .str)) = some (.int (once (ds.map nm)).length) := lenset_strs (by omega)
        have q1 := eOp_at (g := eVar 1) (S := [.dat (.tuple ds), .dat (.list ((ds.map nm).map .str)), .un]) (ps := ps) rfl (eCB_at (aCons_one (g1 := eVar 1) rfl) s1) (eq_strs hok fun z hz => hok z ((List.mergeSort_perm _ _).mem_iff.mp hz))
        have q2 := eOp_at (S := [.dat (.tuple ds), .dat (.list ((ds.map nm).map .str)), .un]) (ps := ps) (eUn_at (g := eVar 1) rfl s2) (eCB_at (aCons_one (g1 := eVar 1) rfl) (show one lenD [.list ((ds.map nm).map .str)] = some (.int ((ds.map nm).map PyData.str).length) from rfl)) (eq_int _ _)
        show sRet _ [.dat (.tuple ds), .dat (.list ((ds.map nm).map .str)), .un] ps = _
        rw [sRet_at (eAnd_at q1 fun _ => q2), hp, ha, Bool.true_and, ← asc_same]
        have : decide (((once (ds.map nm)).length : Int) = (((ds.map nm).map PyData.str).length : Int)) = decide ((once (ds.map nm)).length = (ds.map nm).length) := by
          rw [List.length_map]
          by_cases hz : (once (ds.map nm)).length = (ds.map nm).length
          · rw [decide_eq_true hz, decide_eq_true (by rw [hz])]
          · rw [decide_eq_false hz, decide_eq_false (by omega)]
        rw [this]
  | _ =>
    have t2 := bOr_at (h := bNot (asB (eCB (one allD) (aCons (eLc (iOf (eVar 0)) (tName 2) bYes (eCall f__law_is_pair (aCons (eVar 2) aNil)) [2]) aNil)))) (c := true) (p2 := ps) t1 (fun z => by cases z) (fun _ => rfl)
    exact sSeq_rt (by rw [sIf_at t2]; rfl)
end K71

set_option Elab.async false
set_option linter.all false
set_option maxRecDepth 100000
set_option maxHeartbeats 1000000
/-! k71, the plain law: contexts. -/
namespace K71
open PySem L2 DL
local instance : TBL := ⟨[]⟩
def passOk (d : PyData) : Bool := isPair d && (isB (fstD d) && isInt 0 (sndD d))
def passedOk (n : Nat) : PyData → Bool
  | .tuple ds => decide (ds.length = n) && ds.all passOk
  | _ => false
abbrev qbody : SG := sSeq (sIf (bOr (bNot (asB (eUn (isiD "tuple") (eVar 2)))) (asB (eOp neD (eCB (one lenD) (aCons (eVar 2) aNil)) (eC (.int 2))))) (sRet (eC (.bool false))) sNil) (sIf (bOr (bNot (asB (eUn (isiD "bool") (eOp ixD (eVar 2) (eC (.int 0)))))) (bNot (asB (eCall f_is_integer (aCons (eOp ixD (eVar 2) (eC (.int 1))) (aCons (eC (.int 0)) aNil)))))) (sRet (eC (.bool false))) sNil)
theorem qturn {w : Nat} {d : PyData} (x y : SV) (ps : Pt) (h : wf w d = true) : qbody [x, y, .dat d] ps = if passOk d then some (.nx [x, y, .dat d], ps) else some (.rt (.bool false), ps) := by
  have t1 := two_test (i := 2) (S0 := [x, y, .dat d]) (ps := ps) h rfl
  unfold qbody
  cases hp : isPair d with
  | false =>
    rw [hp] at t1
    rw [sSeq_rt (d := .bool false) (p := ps) (by rw [sIf_at t1]; rfl)]
    have : passOk d = false := by
      unfold passOk
      rw [hp]
      rfl
    rw [this]
    rfl
  | true =>
    rw [hp] at t1
    rw [sSeq_nx (S1 := [x, y, .dat d]) (p := ps) (by rw [sIf_at t1]; rfl)]
    obtain ⟨a, b, rfl⟩ := pair_inv hp
    have wa := (wf_tup.mp h).2 a (by simp)
    have wb := (wf_tup.mp h).2 b (by simp)
    have e3 : asB (eUn (isiD "bool") (eOp ixD (eVar 2) (eC (.int 0)))) [x, y, .dat (.tuple [a, b])] ps = some (isB a, ps) := asB_at (eUn_at (g := eOp ixD (eVar 2) (eC (.int 0))) (x := a) (p := ps) rfl (isi_bool wa))
    have e4 : asB (eCall f_is_integer (aCons (eOp ixD (eVar 2) (eC (.int 1))) (aCons (eC (.int 0)) aNil))) [x, y, .dat (.tuple [a, b])] ps = some (isInt 0 b, ps) := asB_at (eCall_at (aCons_two (g1 := eOp ixD (eVar 2) (eC (.int 1))) (g2 := eC (.int 0)) (x := b) (y := .int 0) (p1 := ps) (p2 := ps) rfl rfl) (is_integer 0 ps wb))
    rw [sIf_at (bOr_at (bNot_at e3) (fun _ => bNot_at e4) (fun _ => rfl))]
    have q : passOk (.tuple [a, b]) = (isB a && isInt 0 b) := rfl
    rw [q]
    cases isB a <;> cases isInt 0 b <;> rfl
theorem qloop {w : Nat} (x y : SV) (ps : Pt) : ∀ (ds : List PyData) (a : SV), (∀ d ∈ ds, wf w d = true) → ∃ b, forGo (tName 2) qbody ds [x, y, a] ps = if ds.all passOk then some (.nx [x, y, b], ps) else some (.rt (.bool false), ps)
  | [], a, _ => ⟨a, rfl⟩
  | d :: ds, a, h => by
    have h1 := qturn x y ps (h d List.mem_cons_self)
    obtain ⟨b, h2⟩ := qloop x y ps ds (.dat d) fun e he => h e (List.mem_cons_of_mem _ he)
    refine ⟨b, ?_⟩
    unfold forGo
    show (match qbody [x, y, .dat d] ps with
      | some (.nx S1, p) => forGo (tName 2) qbody ds S1 p
      | some (.ct S1, p) => forGo (tName 2) qbody ds S1 p
      | some (.bk S1, p) => some (.nx S1, p)
      | some (.rt d, p) => some (.rt d, p)
      | none => none) = _
    rw [h1, List.all_cons]
    cases passOk d with
    | true => exact h2
    | false => rfl
theorem dec_int (a b : Nat) : decide ((a : Int) ≠ (b : Int)) = !decide (a = b) := by
  by_cases h : a = b
  · subst h
    simp
  · rw [decide_eq_true (by omega), decide_eq_false h]
    rfl
theorem is_passed {w : Nat} {d : PyData} (n : Nat) (ps : Pt) (h : wf w d = true) : f_is_passed [d, .int n] ps = some (.bool (passedOk n d), ps) := by
  apply run_rt
  show g_is_passed [.dat d, .dat (.int n), .un] ps = _
  have t1 : bNot (asB (eUn (isiD "tuple") (eVar 0))) [.dat d, .dat (.int n), .un] ps = some (!isT d, ps) := bNot_at (asB_at (eUn_at rfl (isi_tup h)))
  unfold g_is_passed
  cases d with
  | tuple ds =>
    have e2 : asB (eOp neD (eCB (one lenD) (aCons (eVar 0) aNil)) (eVar 1)) [.dat (.tuple ds), .dat (.int n), .un] ps = some (!decide (ds.length = n), ps) := by
      rw [← dec_int]
      exact asB_at (eOp_at (eCB_at (aCons_one (g1 := eVar 0) rfl) (show one lenD [.tuple ds] = some (.int ds.length) from rfl)) (h := eVar 1) rfl (ne_int ds.length n))
    have t2 := bOr_at t1 (fun _ => e2) (fun z => by cases z)
    have hp : passedOk n (.tuple ds) = (decide (ds.length = n) && ds.all passOk) := rfl
    cases hn : decide (ds.length = n) with
    | false =>
      rw [hn] at t2
      rw [sSeq_rt (d := .bool false) (p := ps) (by rw [sIf_at t2]; rfl), hp, hn]
      rfl
    | true =>
      rw [hn] at t2
      rw [sSeq_nx (S1 := [.dat (.tuple ds), .dat (.int n), .un]) (p := ps) (by rw [sIf_at t2]; rfl)]
      obtain ⟨b, hb⟩ := qloop (w := w) (.dat (.tuple ds)) (.dat (.int n)) ps ds .un (wf_tup.mp h).2
      have hf : sFor (iOf (eVar 0)) (tName 2) qbody [.dat (.tuple ds), .dat (.int n), .un] ps = _ := hb
      cases ha : ds.all passOk with
      | true =>
        rw [ha] at hf
        rw [sSeq_nx (S1 := [.dat (.tuple ds), .dat (.int n), b]) (p := ps) hf, hp, hn, ha]
        rfl
      | false =>
        rw [ha] at hf
        rw [sSeq_rt (d := .bool false) (p := ps) hf, hp, hn, ha]
        rfl
  | _ =>
    have t2 := bOr_at (h := asB (eOp neD (eCB (one lenD) (aCons (eVar 0) aNil)) (eVar 1))) (c := true) (p2 := ps) t1 (fun z => by cases z) (fun _ => rfl)
    exact sSeq_rt (by rw [sIf_at t2]; rfl)
/-! ### contexts -/
def fewOk : PyData → Bool
  | .tuple ds => decide (ds.length ≤ 5)
  | _ => false
def ctx (n : Nat) : PyData → Bool
  | .tuple [p, h, s, b] => passedOk n p && (pairsOk h && fewOk h) && (pairsOk s && isInt 0 b)
  | _ => false
theorem pairs_tup {d : PyData} (h : pairsOk d = true) : ∃ ds, d = .tuple ds := by
  cases d with
  | tuple ds => exact ⟨ds, rfl⟩
  | _ => cases h
theorem len4 {ds : List PyData} (h : ds.length = 4) : ∃ a b c d, ds = [a, b, c, d] := by
  match ds, h with
  | [a, b, c, d], _ => exact ⟨a, b, c, d, rfl⟩
theorem ctx_no {n : Nat} {d : PyData} (h : ∀ a b c e, d ≠ .tuple [a, b, c, e]) : ctx n d = false := by
  unfold ctx
  split
  · exact absurd rfl (h _ _ _ _)
  · rfl
theorem four_test {w : Nat} {d : PyData} {i : Nat} {S0 : Sd} {ps : Pt} (h : wf w d = true) (hi : S0[i]? = some (.dat d)) : (∃ a b c e, d = .tuple [a, b, c, e] ∧ bNot (asB (eUn (isiD "tuple") (eVar i))) S0 ps = some (false, ps) ∧ asB (eOp neD (eCB (one lenD) (aCons (eVar i) aNil)) (eC (.int 4))) S0 ps = some (false, ps)) ∨
    ((∀ a b c e, d ≠ .tuple [a, b, c, e]) ∧ ∀ g : BG, bOr (bNot (asB (eUn (isiD "tuple") (eVar i)))) (bOr (asB (eOp neD (eCB (one lenD) (aCons (eVar i) aNil)) (eC (.int 4)))) g) S0 ps = some (true, ps) ∧ bOr (bNot (asB (eUn (isiD "tuple") (eVar i)))) (asB (eOp neD (eCB (one lenD) (aCons (eVar i) aNil)) (eC (.int 4)))) S0 ps = some (true, ps)) := by
  have hv : eVar i S0 ps = some (d, ps) := by
    unfold eVar
    rw [hi]
  have e1 := bNot_at (asB_at (eUn_at hv (isi_tup h)))
  cases d with
  | tuple ds =>
    have e2 : asB (eOp neD (eCB (one lenD) (aCons (eVar i) aNil)) (eC (.int 4))) S0 ps = some (!decide (ds.length = 4), ps) := by
      rw [← dec_int]
      exact asB_at (eOp_at (eCB_at (aCons_one hv) (show one lenD [.tuple ds] = some (.int ds.length) from rfl)) (h := eC (.int 4)) rfl (ne_int ds.length 4))
    by_cases hl : ds.length = 4
    · obtain ⟨a, b, c, e, rfl⟩ := len4 hl
      exact .inl ⟨a, b, c, e, rfl, e1, e2⟩
    · rw [decide_eq_false hl] at e2
      refine .inr ⟨fun a b c e z => ?_, fun g => ⟨bOr_at (c := true) e1 (fun _ => bOr_at (c := true) (p2 := ps) e2 (fun z => by cases z) (fun _ => rfl)) (fun _ => rfl), bOr_at e1 (fun _ => e2) (fun _ => rfl)⟩⟩
      cases z
      exact hl rfl
  | _ => exact .inr ⟨fun a b c e z => (by cases z), fun g => ⟨bOr_at (c := true) (p2 := ps) e1 (fun z => by cases z) (fun _ => rfl), bOr_at (c := true) (p2 := ps) e1 (fun z => by cases z) (fun _ => rfl)⟩⟩
theorem few_gt (ds : List PyData) : decide ((5 : Int) < (ds.length : Int)) = !fewOk (.tuple ds) := by
  show _ = !decide (ds.length ≤ 5)
  by_cases h : ds.length ≤ 5
  · rw [decide_eq_true h, decide_eq_false (by omega)]
    rfl
  · rw [decide_eq_false h, decide_eq_true (by omega)]
    rfl
theorem is_context {w : Nat} {d : PyData} (cs : List PyData) (ps : Pt) (h : wf w d = true) (hw : w ≤ 60) : f_is_context [.tuple cs, d] ps = some (.bool (ctx cs.length d), ps) := by
  apply run_rt
  show g_is_context [.dat (.tuple cs), .dat d, .un, .un, .un, .un] ps = _
  unfold g_is_context
  rcases four_test (i := 1) (S0 := [.dat (.tuple cs), .dat d, .un, .un, .un, .un]) (ps := ps) h rfl with ⟨p, k, s, b, rfl, e1, e2⟩ | ⟨hno, ht⟩
  · have t1 := bOr_at e1 (fun _ => e2) (fun z => by cases z)
    rw [sSeq_nx (S1 := [.dat (.tuple cs), .dat (.tuple [p, k, s, b]), .un, .un, .un, .un]) (p := ps) (by rw [sIf_at t1]; rfl)]
    rw [sSeq_nx (S1 := [.dat (.tuple cs), .dat (.tuple [p, k, s, b]), .dat p, .dat k, .dat s, .dat b]) (p := ps) rfl]
    have hall := (wf_tup.mp h).2
    have wp := hall p (by simp)
    have wk := hall k (by simp)
    have ws := hall s (by simp)
    have wb := hall b (by simp)
    have a1 : asB (eCall f_is_passed (aCons (eVar 2) (aCons (eCB (one lenD) (aCons (eVar 0) aNil)) aNil))) [.dat (.tuple cs), .dat (.tuple [p, k, s, b]), .dat p, .dat k, .dat s, .dat b] ps = some (passedOk cs.length p, ps) := asB_at (eCall_at (aCons_two (g1 := eVar 2) (x := p) (y := .int cs.length) (p1 := ps) (p2 := ps) rfl rfl) (is_passed cs.length ps wp))
    have a2 : asB (eCall f_are_pairs (aCons (eVar 3) aNil)) [.dat (.tuple cs), .dat (.tuple [p, k, s, b]), .dat p, .dat k, .dat s, .dat b] ps = some (pairsOk k, ps) := asB_at (eCall_at (aCons_one (g1 := eVar 3) rfl) (are_pairs ps wk hw))
    have a3 : pairsOk k = true → asB (eOp gtI (eCB (one lenD) (aCons (eVar 3) aNil)) (eC k_MOST_HANDLERS)) [.dat (.tuple cs), .dat (.tuple [p, k, s, b]), .dat p, .dat k, .dat s, .dat b] ps = some (!fewOk k, ps) := fun hk => by
      obtain ⟨ds, rfl⟩ := pairs_tup hk
      rw [← few_gt]
      exact asB_at (eOp_at (eCB_at (aCons_one (g1 := eVar 3) rfl) (show one lenD [.tuple ds] = some (.int ds.length) from rfl)) (h := eC k_MOST_HANDLERS) rfl rfl)
    have t2 := bOr_at (bNot_at a1) (fun _ => bOr_at (bNot_at a2) (fun z => a3 (by cases hq : pairsOk k <;> rw [hq] at z <;> first | rfl | cases z)) (fun _ => rfl)) (fun _ => rfl)
    have a4 := eAnd_at (eCall_at (aCons_one (g1 := eVar 4) (S0 := [.dat (.tuple cs), .dat (.tuple [p, k, s, b]), .dat p, .dat k, .dat s, .dat b]) (p := ps) rfl) (are_pairs ps ws hw)) fun _ => eCall_at (aCons_two (g1 := eVar 5) (g2 := eC (.int 0)) (x := b) (y := .int 0) (p1 := ps) (p2 := ps) rfl rfl) (is_integer 0 ps wb)
    have hc : ctx cs.length (.tuple [p, k, s, b]) = (passedOk cs.length p && (pairsOk k && fewOk k) && (pairsOk s && isInt 0 b)) := rfl
    cases hq : (passedOk cs.length p && (pairsOk k && fewOk k)) with
    | true =>
      rw [hc, hq, Bool.true_and]
      have : (!passedOk cs.length p || (!pairsOk k || !fewOk k)) = false := by
        cases h1 : passedOk cs.length p <;> cases h2 : pairsOk k <;> cases h3 : fewOk k <;> rw [h1, h2, h3] at hq <;> first | rfl | cases hq
      rw [this] at t2
      rw [sSeq_nx (p := ps) (by rw [sIf_at t2]; rfl)]
      exact sRet_at a4
    | false =>
      rw [hc, hq, Bool.false_and]
      have : (!passedOk cs.length p || (!pairsOk k || !fewOk k)) = true := by
        cases h1 : passedOk cs.length p <;> cases h2 : pairsOk k <;> cases h3 : fewOk k <;> rw [h1, h2, h3] at hq <;> first | rfl | cases hq
      rw [this] at t2
      exact sSeq_rt (by rw [sIf_at t2]; rfl)
  · rw [ctx_no hno]
    exact sSeq_rt (by rw [sIf_at (ht bYes).2]; rfl)
theorem pass_split (ds : List PyData) : (ds.all isPair && ds.all fun d => isB (fstD d) && isInt 0 (sndD d)) = ds.all passOk := by
  induction ds with
  | nil => rfl
  | cons d r ih =>
    simp only [List.all_cons, ← ih, passOk]
    cases isPair d <;> cases isB (fstD d) <;> cases isInt 0 (sndD d) <;> simp
theorem law_is_context {w : Nat} {d : PyData} (cs : List PyData) (ps : Pt) (h : wf w d = true) (hw : w ≤ 60) : f__law_is_context [.tuple cs, d] ps = some (.bool (ctx cs.length d), ps) := by
  apply run_rt
  show g__law_is_context [.dat (.tuple cs), .dat d, .un] ps = _
  unfold g__law_is_context
  rcases four_test (i := 1) (S0 := [.dat (.tuple cs), .dat d, .un]) (ps := ps) h rfl with ⟨p, k, s, b, rfl, e1, e2⟩ | ⟨hno, ht⟩
  · have hall := (wf_tup.mp h).2
    have wp := hall p (by simp)
    have wk := hall k (by simp)
    have ws := hall s (by simp)
    have wb := hall b (by simp)
    have hc : ctx cs.length (.tuple [p, k, s, b]) = (passedOk cs.length p && (pairsOk k && fewOk k) && (pairsOk s && isInt 0 b)) := rfl
    have e3 : bNot (asB (eUn (isiD "tuple") (eOp ixD (eVar 1) (eC (.int 0))))) [.dat (.tuple cs), .dat (.tuple [p, k, s, b]), .un] ps = some (!isT p, ps) := bNot_at (asB_at (eUn_at (g := eOp ixD (eVar 1) (eC (.int 0))) (x := p) (p := ps) rfl (isi_tup wp)))
    have t1 := bOr_at e1 (fun _ => bOr_at e2 (fun _ => e3) (fun z => by cases z)) (fun z => by cases z)
    cases p with
    | tuple ds =>
      have hwd := (wf_tup.mp wp).2
      have hld := (wf_tup.mp wp).1
      rw [sSeq_nx (S1 := [.dat (.tuple cs), .dat (.tuple [.tuple ds, k, s, b]), .un]) (p := ps) (by rw [sIf_at t1]; rfl)]
      have f1 : asB (eOp neD (eCB (one lenD) (aCons (eOp ixD (eVar 1) (eC (.int 0))) aNil)) (eCB (one lenD) (aCons (eVar 0) aNil))) [.dat (.tuple cs), .dat (.tuple [.tuple ds, k, s, b]), .un] ps = some (!decide (ds.length = cs.length), ps) := by
        rw [← dec_int]
        exact asB_at (eOp_at (eCB_at (aCons_one (g1 := eOp ixD (eVar 1) (eC (.int 0))) (x := .tuple ds) (p1 := ps) rfl) (show one lenD [.tuple ds] = some (.int ds.length) from rfl)) (eCB_at (aCons_one (g1 := eVar 0) rfl) (show one lenD [.tuple cs] = some (.int cs.length) from rfl)) (ne_int ds.length cs.length))
      have f2 := lc_same (f := isPair) (ds := ds) (it := iOf (eOp ixD (eVar 1) (eC (.int 0)))) (i := 2) (vs := [2]) (elt := eCall f__law_is_pair (aCons (eVar 2) aNil)) (S0 := [.dat (.tuple cs), .dat (.tuple [.tuple ds, k, s, b]), .un]) (ps := ps) rfl (by omega) fun d hd => eCall_at (aCons_one (g1 := eVar 2) rfl) (law_is_pair ps (hwd d hd))
      have t2 := bOr_at f1 (fun _ => bNot_at (asB_at f2)) (fun _ => rfl)
      have hp : passedOk cs.length (.tuple ds) = (decide (ds.length = cs.length) && ds.all passOk) := rfl
      cases h1 : (decide (ds.length = cs.length) && ds.all isPair) with
      | false =>
        have : (!decide (ds.length = cs.length) || !ds.all isPair) = true := by
          cases q1 : decide (ds.length = cs.length) <;> cases q2 : ds.all isPair <;> rw [q1, q2] at h1 <;> first | rfl | cases h1
        rw [this] at t2
        rw [sSeq_rt (d := .bool false) (p := ps) (by rw [sIf_at t2]; rfl), hc, show passedOk cs.length (.tuple ds) = ((decide (ds.length = cs.length) && ds.all isPair) && ds.all fun d => isB (fstD d) && isInt 0 (sndD d)) by rw [hp, ← pass_split, Bool.and_assoc], h1]
        rfl
      | true =>
        have hb1 : decide (ds.length = cs.length) = true ∧ ds.all isPair = true := by rwa [Bool.and_eq_true] at h1
        have : (!decide (ds.length = cs.length) || !ds.all isPair) = false := by rw [hb1.1, hb1.2]; rfl
        rw [this] at t2
        rw [sSeq_nx (S1 := [.dat (.tuple cs), .dat (.tuple [.tuple ds, k, s, b]), .un]) (p := ps) (by rw [sIf_at t2]; rfl)]
        have hpair := List.all_eq_true.mp hb1.2
        have f3 := lc_same (f := fun d => isB (fstD d) && isInt 0 (sndD d)) (ds := ds) (it := iOf (eOp ixD (eVar 1) (eC (.int 0)))) (i := 2) (vs := [2]) (elt := eAndV (eUn (isiD "bool") (eOp ixD (eVar 2) (eC (.int 0)))) (eCall f__law_whole (aCons (eOp ixD (eVar 2) (eC (.int 1))) (aCons (eC (.int 0)) aNil)))) (S0 := [.dat (.tuple cs), .dat (.tuple [.tuple ds, k, s, b]), .un]) (ps := ps) rfl (by omega) fun d hd => by
          obtain ⟨x, y, rfl⟩ := pair_inv (hpair d hd)
          have wx := (wf_tup.mp (hwd _ hd)).2 x (by simp)
          have wy := (wf_tup.mp (hwd _ hd)).2 y (by simp)
          exact eAnd_at (eUn_at (g := eOp ixD (eVar 2) (eC (.int 0))) (x := x) (p := ps) rfl (isi_bool wx)) fun _ => eCall_at (aCons_two (g1 := eOp ixD (eVar 2) (eC (.int 1))) (g2 := eC (.int 0)) (x := y) (y := .int 0) (p1 := ps) (p2 := ps) rfl rfl) (law_whole 0 ps wy)
        have t3 := bNot_at (asB_at f3)
        cases h2 : ds.all fun d => isB (fstD d) && isInt 0 (sndD d) with
        | false =>
          rw [h2] at t3
          rw [sSeq_rt (d := .bool false) (p := ps) (by rw [sIf_at t3]; rfl), hc, hp, ← pass_split, h2, hb1.1, hb1.2]
          rfl
        | true =>
          rw [h2] at t3
          rw [sSeq_nx (S1 := [.dat (.tuple cs), .dat (.tuple [.tuple ds, k, s, b]), .un]) (p := ps) (by rw [sIf_at t3]; rfl)]
          have hpo : passedOk cs.length (.tuple ds) = true := by rw [hp, ← pass_split, h2, hb1.1, hb1.2]; rfl
          have g2 : asB (eCall f__law_are_pairs (aCons (eOp ixD (eVar 1) (eC (.int 1))) aNil)) [.dat (.tuple cs), .dat (.tuple [.tuple ds, k, s, b]), .un] ps = some (pairsOk k, ps) := asB_at (eCall_at (aCons_one (g1 := eOp ixD (eVar 1) (eC (.int 1))) (x := k) (p1 := ps) rfl) (law_are_pairs ps wk hw))
          have g3 : asB (eCall f__law_are_pairs (aCons (eOp ixD (eVar 1) (eC (.int 2))) aNil)) [.dat (.tuple cs), .dat (.tuple [.tuple ds, k, s, b]), .un] ps = some (pairsOk s, ps) := asB_at (eCall_at (aCons_one (g1 := eOp ixD (eVar 1) (eC (.int 2))) (x := s) (p1 := ps) rfl) (law_are_pairs ps ws hw))
          have g4 : pairsOk k = true → asB (eOp gtI (eCB (one lenD) (aCons (eOp ixD (eVar 1) (eC (.int 1))) aNil)) (eC (.int 5))) [.dat (.tuple cs), .dat (.tuple [.tuple ds, k, s, b]), .un] ps = some (!fewOk k, ps) := fun hk => by
            obtain ⟨es, rfl⟩ := pairs_tup hk
            rw [← few_gt]
            exact asB_at (eOp_at (eCB_at (aCons_one (g1 := eOp ixD (eVar 1) (eC (.int 1))) (x := .tuple es) (p1 := ps) rfl) (show one lenD [.tuple es] = some (.int es.length) from rfl)) (h := eC (.int 5)) rfl rfl)
          have t4 := bOr_at (bNot_at g2) (fun z => bOr_at (g4 (by cases hq : pairsOk k <;> rw [hq] at z <;> first | rfl | cases z)) (fun _ => bNot_at g3) (fun _ => rfl)) (fun _ => rfl)
          have g5 : eCall f__law_whole (aCons (eOp ixD (eVar 1) (eC (.int 3))) (aCons (eC (.int 0)) aNil)) [.dat (.tuple cs), .dat (.tuple [.tuple ds, k, s, b]), .un] ps = some (.bool (isInt 0 b), ps) := eCall_at (aCons_two (g1 := eOp ixD (eVar 1) (eC (.int 3))) (g2 := eC (.int 0)) (x := b) (y := .int 0) (p1 := ps) (p2 := ps) rfl rfl) (law_whole 0 ps wb)
          rw [hc, hpo, Bool.true_and]
          cases h3 : (pairsOk k && fewOk k && pairsOk s) with
          | true =>
            have : (!pairsOk k || (!fewOk k || !pairsOk s)) = false := by
              cases q1 : pairsOk k <;> cases q2 : fewOk k <;> cases q3 : pairsOk s <;> rw [q1, q2, q3] at h3 <;> first | rfl | cases h3
            rw [this] at t4
            rw [sSeq_nx (p := ps) (by rw [sIf_at t4]; rfl), sRet_at g5, ← Bool.and_assoc, h3, Bool.true_and]
          | false =>
            have : (!pairsOk k || (!fewOk k || !pairsOk s)) = true := by
              cases q1 : pairsOk k <;> cases q2 : fewOk k <;> cases q3 : pairsOk s <;> rw [q1, q2, q3] at h3 <;> first | rfl | cases h3
            rw [this] at t4
            rw [sSeq_rt (d := .bool false) (p := ps) (by rw [sIf_at t4]; rfl), ← Bool.and_assoc, h3]
            rfl
    | _ => exact sSeq_rt (by rw [sIf_at t1]; rfl)
  · rw [ctx_no hno]
    exact sSeq_rt (by rw [sIf_at (ht _).1]; rfl)
end K71

set_option Elab.async false
set_option linter.all false
set_option maxRecDepth 100000
set_option maxHeartbeats 1000000
/-! k71, the plain law: texts of data, what is told is right. -/
namespace K71
open PySem L2 DL
local instance : TBL := ⟨[]⟩
def bnd : Nat → Nat
  | 0 => 110
  | k + 1 => 12 * (bnd k + 2) + 4
theorem bnd_up (k : Nat) : bnd k ≤ bnd (k + 1) := by
  show bnd k ≤ 12 * (bnd k + 2) + 4
  omega
theorem bnd_0 (k : Nat) : 110 ≤ bnd k := by
  induction k with
  | zero => exact Nat.le_refl _
  | succ k ih => exact Nat.le_trans ih (bnd_up k)
theorem str_app (a b : Str) : (a ++ b).length = a.length + b.length := strLen_append a b
theorem text_up {B : Nat} : ∀ (ts : List Str) (k : Nat) (acc : Str), (∀ t ∈ ts, t.length ≤ B) → (textFrom k acc ts).length ≤ acc.length + ts.length * (B + 2)
  | [], k, acc, _ => by simp [textFrom]
  | t :: r, k, acc, h => by
    have ih := text_up r (k + 1) (acc ++ (if k > 0 then ", " else "" : String) ++ t) fun x hx => h x (List.mem_cons_of_mem _ hx)
    have h1 := h t List.mem_cons_self
    have h2 : ((if k > 0 then ", " else "" : String) : Str).length ≤ 2 := by
      by_cases hk : k > 0
      · rw [if_pos hk]
        decide
      · rw [if_neg hk]
        decide
    have e : (acc ++ (if k > 0 then ", " else "" : String) ++ t).length = acc.length + ((if k > 0 then ", " else "" : String) : Str).length + t.length := by
      rw [str_app, str_app]
    rw [e] at ih
    show (textFrom (k + 1) (acc ++ (if k > 0 then ", " else "" : String) ++ t) r).length ≤ _
    rw [List.length_cons, Nat.succ_mul]
    omega
theorem list_up {B : Nat} {ts : List Str} (h : ∀ t ∈ ts, t.length ≤ B) : (listText ts).length ≤ ts.length * (B + 2) + 2 := by
  unfold listText
  rw [str_app]
  have := text_up ts 0 "[" h
  have h1 : (("[" : String) : Str).length = 1 := by decide
  have h2 : (("]" : String) : Str).length = 1 := by decide
  omega
theorem piled_up {B : Nat} : ∀ {ts : List Str}, (∀ t ∈ ts, t.length ≤ B) → piled ts ≤ ts.length * (B + 2)
  | [], _ => by simp [piled]
  | t :: r, h => by
    have ih := piled_up (ts := r) fun x hx => h x (List.mem_cons_of_mem _ hx)
    have h1 := h t List.mem_cons_self
    have e : piled (t :: r) = t.length + 2 + piled r := by simp [piled]
    rw [e, List.length_cons, Nat.succ_mul]
    omega
theorem tup_up {B : Nat} {ts : List Str} (h : ∀ t ∈ ts, t.length ≤ B) : (tupleText ts).length ≤ ts.length * (B + 2) + 3 := by
  unfold tupleText
  rw [str_app, str_app]
  have h1 : (("(" : String) : Str).length = 1 := by decide
  have h2 : ((if ts.length == 1 then ",)" else ")" : String) : Str).length ≤ 2 := by
    by_cases hk : (ts.length == 1) = true
    · rw [if_pos hk]
      decide
    · rw [if_neg hk]
      decide
  have h3 := piled_up h
  by_cases hn : ts = []
  · subst hn
    have : (Str.join ", " []).length = 0 := by decide
    omega
  · have := join_length_add ts hn
    omega
mutual
theorem sh_le {w : Nat} (hw : w ≤ 12) : ∀ (d : PyData) (k : Nat), wf w d = true → d.depth ≤ k → d.shown.length ≤ bnd k
  | .none, k, _, _ => by
    have := bnd_0 k
    have e : (PyData.none).shown.length = 4 := by simp only [PyData.shown]; decide
    omega
  | .bool b, k, _, _ => by
    have := bnd_0 k
    have e : (PyData.bool b).shown.length ≤ 5 := by cases b <;> simp only [PyData.shown] <;> decide
    omega
  | .int i, k, h, _ => by
    have := bnd_0 k
    rw [wf] at h
    have h1 := int_text_length_le (k := 100) (by decide) (of_decide_eq_true h)
    have e : (PyData.int i).shown.length = (toString i).length := by
      simp only [PyData.shown]
      exact ofString_length _
    omega
  | .str z, k, h, _ => by
    have := bnd_0 k
    rw [wf, Bool.and_eq_true, Bool.and_eq_true] at h
    have h1 : (reprText z).length ≤ 100 := of_decide_eq_true h.1.2
    have e : (PyData.str z).shown = reprText z := by simp only [PyData.shown]
    rw [e]
    omega
  | .list ds, k, h, hd => by
    rw [wf, Bool.and_eq_true] at h
    have hl : ds.length ≤ w := of_decide_eq_true h.1
    cases k with
    | zero => simp [PyData.depth] at hd
    | succ k =>
      simp only [PyData.depth] at hd
      have h1 := shL_le hw ds k h.2 (by omega)
      have e : (PyData.list ds).shown = listText (PyData.shownAll ds) := by simp only [PyData.shown]
      have h2 := list_up h1
      rw [shAll_len] at h2
      rw [e]
      have h3 : ds.length * (bnd k + 2) ≤ 12 * (bnd k + 2) := Nat.mul_le_mul_right _ (by omega)
      show _ ≤ 12 * (bnd k + 2) + 4
      omega
  | .tuple ds, k, h, hd => by
    rw [wf, Bool.and_eq_true] at h
    have hl : ds.length ≤ w := of_decide_eq_true h.1
    cases k with
    | zero => simp [PyData.depth] at hd
    | succ k =>
      simp only [PyData.depth] at hd
      have h1 := shL_le hw ds k h.2 (by omega)
      have e : (PyData.tuple ds).shown = tupleText (PyData.shownAll ds) := by simp only [PyData.shown]
      have h2 := tup_up h1
      rw [shAll_len] at h2
      rw [e]
      have h3 : ds.length * (bnd k + 2) ≤ 12 * (bnd k + 2) := Nat.mul_le_mul_right _ (by omega)
      show _ ≤ 12 * (bnd k + 2) + 4
      omega
  | .dict es, k, h, _ => by
    have := bnd_0 k
    cases wf_dict h
    have e : (PyData.dict []).shown.length = 2 := by simp only [PyData.shown, PyData.shownKv]; decide
    omega
theorem shL_le {w : Nat} (hw : w ≤ 12) : ∀ (ds : List PyData) (k : Nat), wfL w ds = true → PyData.depthAll ds ≤ k → ∀ t ∈ PyData.shownAll ds, t.length ≤ bnd k
  | [], k, _, _, t, ht => by simp [PyData.shownAll] at ht
  | d :: ds, k, h, hd, t, ht => by
    rw [wfL, Bool.and_eq_true] at h
    simp only [PyData.depthAll] at hd
    simp only [PyData.shownAll, List.mem_cons] at ht
    rcases ht with rfl | ht
    · exact sh_le hw d k h.1 (by omega)
    · exact shL_le hw ds k h.2 (by omega) t ht
theorem shAll_len : ∀ ds : List PyData, (PyData.shownAll ds).length = ds.length
  | [] => by simp [PyData.shownAll]
  | d :: ds => by simp [PyData.shownAll, shAll_len ds]
end
mutual
theorem wf_free {w : Nat} : ∀ d : PyData, wf w d = true → potFree d = true ∧ d.showable = true
  | .none, _ => by simp [potFree, PyData.showable]
  | .bool _, _ => by simp [potFree, PyData.showable]
  | .int i, h => by
    rw [wf] at h
    have := of_decide_eq_true h
    simp only [potFree, PyData.showable, true_and, decide_eq_true_eq]
    omega
  | .str _, _ => by simp [potFree, PyData.showable]
  | .list ds, h => by
    rw [wf, Bool.and_eq_true] at h
    have := wfL_free ds h.2
    simp only [potFree, PyData.showable]
    exact this
  | .tuple ds, h => by
    rw [wf, Bool.and_eq_true] at h
    have := wfL_free ds h.2
    simp only [potFree, PyData.showable]
    exact this
  | .dict es, h => by
    cases wf_dict h
    simp [potFree, potFreeK, PyData.showable, PyData.showableKv]
theorem wfL_free {w : Nat} : ∀ ds : List PyData, wfL w ds = true → potFreeL ds = true ∧ PyData.showableAll ds = true
  | [], _ => by simp [potFreeL, PyData.showableAll]
  | d :: ds, h => by
    rw [wfL, Bool.and_eq_true] at h
    obtain ⟨a, b⟩ := wf_free d h.1
    obtain ⟨c, e⟩ := wfL_free ds h.2
    simp [potFreeL, PyData.showableAll, a, b, c, e]
end
theorem repr_at {d : PyData} (h1 : isBox d = true) (h2 : potFree d = true) (h3 : d.showable = true) (h4 : d.depth ≤ 100) (h5 : d.shown.length ≤ 16777216) : reprD d = some (.str d.shown) := by
  have hs : reprOk d = true := by
    unfold reprOk
    rw [h1, h2, h3, decide_eq_true h4, decide_eq_true h5]
    rfl
  unfold reprD
  rw [if_pos hs]
theorem repr_two {w : Nat} {c d : PyData} (hw : w ≤ 12) (hc : wf w c = true) (hd : wf w d = true) (dc : c.depth ≤ 4) (dd : d.depth ≤ 4) : reprD (.tuple [c, d]) = some (.str (PyData.tuple [c, d]).shown) := by
  obtain ⟨a1, a2⟩ := wf_free c hc
  obtain ⟨b1, b2⟩ := wf_free d hd
  have h1 := sh_le hw c 4 hc dc
  have h2 := sh_le hw d 4 hd dd
  have hb : bnd 4 = 2333740 := by decide
  have e : (PyData.tuple [c, d]).shown = tupleText [c.shown, d.shown] := by simp only [PyData.shown, PyData.shownAll]
  have h3 := tup_up (B := bnd 4) (ts := [c.shown, d.shown]) fun t ht => by
    rcases List.mem_cons.mp ht with rfl | ht
    · exact h1
    · rw [List.mem_singleton] at ht
      rw [ht]
      exact h2
  refine repr_at rfl ?_ ?_ ?_ ?_
  · simp [potFree, potFreeL, a1, b1]
  · simp [PyData.showable, PyData.showableAll, a2, b2]
  · simp only [PyData.depth, PyData.depthAll]
    omega
  · rw [e]
    simp only [List.length_cons, List.length_nil] at h3
    omega
theorem repr_bools (b : Bool) : reprD (.list [.bool b, .bool b]) = some (.str (PyData.list [.bool b, .bool b]).shown) := by
  refine repr_at rfl (by simp [potFree, potFreeL]) (by simp [PyData.showable, PyData.showableAll]) (by simp [PyData.depth, PyData.depthAll]) ?_
  have h := list_up (B := 5) (ts := [(PyData.bool b).shown, (PyData.bool b).shown]) fun t ht => by
    have e : (PyData.bool b).shown.length ≤ 5 := by cases b <;> simp only [PyData.shown] <;> decide
    rcases List.mem_cons.mp ht with rfl | ht
    · exact e
    · rw [List.mem_singleton] at ht
      rw [ht]
      exact e
  have e : (PyData.list [.bool b, .bool b]).shown = listText [(PyData.bool b).shown, (PyData.bool b).shown] := by simp only [PyData.shown, PyData.shownAll]
  rw [e]
  simp only [List.length_cons, List.length_nil] at h
  omega
theorem eq_str (a : Str) : eqD (.str a) (.str a) = some (.bool true) := by
  unfold eqD orD
  simp [eqS]
theorem told_right {w : Nat} {cs : List PyData} {d : PyData} (ps : Pt) (hw : w ≤ 12) (hc : wf w (.tuple cs) = true) (dc : (PyData.tuple cs).depth ≤ 4) (hd : wf w d = true) (dd : d.depth ≤ 4) : f__law_told_right [.tuple cs, d] ps = some (.bool true, ps) := by
  apply run_rt
  show g__law_told_right [.dat (.tuple cs), .dat d, .un, .un, .un] ps = _
  unfold g__law_told_right
  have r1 := repr_two hw hc hd dc dd
  have tp : ∀ (x2 x3 x4 : SV), eTup (aCons (eVar 0) (aCons (eVar 1) aNil)) [.dat (.tuple cs), .dat d, x2, x3, x4] ps = some (.tuple [.tuple cs, d], ps) := fun _ _ _ => rfl
  have rp : ∀ (x2 x3 x4 : SV), eCB (one reprD) (aCons (eTup (aCons (eVar 0) (aCons (eVar 1) aNil))) aNil) [.dat (.tuple cs), .dat d, x2, x3, x4] ps = some (.str (PyData.tuple [.tuple cs, d]).shown, ps) := fun x2 x3 x4 => eCB_at (aCons_one (tp x2 x3 x4)) r1
  have e1 : eCall f__law_is_context (aCons (eVar 0) (aCons (eVar 1) aNil)) [.dat (.tuple cs), .dat d, .un, .un, .un] ps = some (.bool (ctx cs.length d), ps) := eCall_at (aCons_two (g1 := eVar 0) (g2 := eVar 1) rfl rfl) (law_is_context cs ps hd (by omega))
  have p1 : sPar 3 4 (aCons (eCall f__law_is_context (aCons (eVar 0) (aCons (eVar 1) aNil))) (aCons (eCB (one reprD) (aCons (eTup (aCons (eVar 0) (aCons (eVar 1) aNil))) aNil)) aNil)) [.dat (.tuple cs), .dat d, .un, .un, .un] ps = some (.nx [.dat (.tuple cs), .dat d, .un, .dat (.bool (ctx cs.length d)), .dat (.str (PyData.tuple [.tuple cs, d]).shown)], ps) := by
    unfold sPar
    rw [aCons_two e1 (rp .un .un .un)]
    rfl
  rw [sSeq_nx p1]
  have e2 : eCall f_is_context (aCons (eVar 0) (aCons (eVar 1) aNil)) [.dat (.tuple cs), .dat d, .un, .dat (.bool (ctx cs.length d)), .dat (.str (PyData.tuple [.tuple cs, d]).shown)] ps = some (.bool (ctx cs.length d), ps) := eCall_at (aCons_two (g1 := eVar 0) (g2 := eVar 1) rfl rfl) (is_context cs ps hd (by omega))
  have e3 : eCallK f_is_context [1, 0] (aCons (eVar 1) (aCons (eVar 0) aNil)) [.dat (.tuple cs), .dat d, .un, .dat (.bool (ctx cs.length d)), .dat (.str (PyData.tuple [.tuple cs, d]).shown)] ps = some (.bool (ctx cs.length d), ps) := by
    unfold eCallK
    rw [aCons_two (g1 := eVar 1) (g2 := eVar 0) (x := d) (y := .tuple cs) (p1 := ps) (p2 := ps) rfl rfl, bindP_some]
    exact is_context cs ps hd (by omega)
  have e4 : eLst (aCons (eCall f_is_context (aCons (eVar 0) (aCons (eVar 1) aNil))) (aCons (eCallK f_is_context [1, 0] (aCons (eVar 1) (aCons (eVar 0) aNil))) aNil)) [.dat (.tuple cs), .dat d, .un, .dat (.bool (ctx cs.length d)), .dat (.str (PyData.tuple [.tuple cs, d]).shown)] ps = some (.list [.bool (ctx cs.length d), .bool (ctx cs.length d)], ps) := by
    unfold eLst
    rw [aCons_two e2 e3]
    rfl
  rw [sSeq_nx (sSet_at e4)]
  show sRet _ [.dat (.tuple cs), .dat d, .dat (.list [.bool (ctx cs.length d), .bool (ctx cs.length d)]), .dat (.bool (ctx cs.length d)), .dat (.str (PyData.tuple [.tuple cs, d]).shown)] ps = _
  have q1 := eOp_at (S := [.dat (.tuple cs), .dat d, .dat (.list [.bool (ctx cs.length d), .bool (ctx cs.length d)]), .dat (.bool (ctx cs.length d)), .dat (.str (PyData.tuple [.tuple cs, d]).shown)]) (ps := ps) (eCB_at (o := one reprD) (aCons_one (g1 := eVar 2) rfl) (repr_bools (ctx cs.length d))) (eCB_at (o := one reprD) (aCons_one (g1 := eLst (aCons (eVar 3) (aCons (eVar 3) aNil))) rfl) (repr_bools (ctx cs.length d))) (eq_str _)
  have q2 := eOp_at (S := [.dat (.tuple cs), .dat d, .dat (.list [.bool (ctx cs.length d), .bool (ctx cs.length d)]), .dat (.bool (ctx cs.length d)), .dat (.str (PyData.tuple [.tuple cs, d]).shown)]) (ps := ps) (rp _ _ _) (h := eVar 4) rfl (eq_str _)
  exact sRet_at (eAnd_at q1 fun _ => q2)
end K71

set_option Elab.async false
set_option linter.all false
set_option maxRecDepth 100000
set_option maxHeartbeats 2000000
/-! k71, the plain law: draws, things that are spoilt stay well formed. -/
namespace K71
open PySem L2 DL
local instance : TBL := ⟨[]⟩
def POk (ps : Pt) : Prop := 0 ≤ ps.2 ∧ ps.2 < 2147483648
theorem draw_ok {m : Int} {ps : Pt} (h : POk ps) (h0 : 0 < m) (h1 : m < 1073741824) : ∃ v, drawF [potD, .int m] ps = some (.int v, drawS m ps) ∧ 0 ≤ v ∧ v < m ∧ POk (drawS m ps) := by
  refine ⟨drawV m ps, ?_, ?_, ?_, ?_⟩
  · show (if isPot potD && drawOk m ps then some (PyData.int (drawV m ps), drawS m ps) else none) = _
    have e : (isPot potD && drawOk m ps) = true := by
      unfold drawOk
      rw [decide_eq_true h0, decide_eq_true h1, decide_eq_true h.1, decide_eq_true h.2]
      rfl
    rw [if_pos e]
  · unfold drawV
    split <;> exact Int.emod_nonneg _ (by omega)
  · unfold drawV
    split <;> exact Int.emod_lt_of_pos _ h0
  · unfold drawS POk
    split
    · exact h
    · refine ⟨Int.emod_nonneg _ (by decide), ?_⟩
      have : (ps.2 * 39373 + 12227) % 2147483629 < 2147483629 := Int.emod_lt_of_pos _ (by decide)
      show (ps.2 * 39373 + 12227) % 2147483629 < 2147483648
      omega
theorem atI_ok {α : Type} {xs : List α} {i : Int} (h0 : 0 ≤ i) (h1 : i < xs.length) : ∃ x ∈ xs, atI xs i = some x := by
  have hl : i.toNat < xs.length := by omega
  refine ⟨xs[i.toNat], List.getElem_mem hl, ?_⟩
  unfold atI ixN
  rw [if_pos h0, if_pos h1]
  simp [hl]
theorem pick_ok {x : PyData} {ds : List PyData} {ps : Pt} (hx : x = .list ds ∨ x = .tuple ds) (h : POk ps) (h0 : 0 < ds.length) (h1 : ds.length ≤ 1000) : ∃ d ∈ ds, ∃ p', f__law_pick [potD, x] ps = some (d, p') ∧ POk p' := by
  obtain ⟨v, e, v0, v1, ok⟩ := draw_ok (m := ds.length) h (by omega) (by omega)
  obtain ⟨d, hd, e2⟩ := atI_ok (xs := ds) v0 v1
  refine ⟨d, hd, _, ?_, ok⟩
  show runF 2 g__law_pick [potD, x] ps = _
  have el : lenD x = some (.int ds.length) := by rcases hx with rfl | rfl <;> rfl
  have ei : ixD x (.int v) = some d := by rcases hx with rfl | rfl <;> exact e2
  simp [runF, g__law_pick, sRet, eOp, eVar, startD, eCall, aCons, aNil, eCB, one, el, bindP, e, ei]
/-! ### the pot -/
theorem log2_le {n k : Nat} (h : n < 2 ^ k) (hk : 0 < k) : n.log2 < k := by
  by_cases hn : n = 0
  · subst hn
    simpa using hk
  · exact (Nat.log2_lt hn).mpr h
theorem mul_ok {i j : Int} (hi : i.natAbs < 2 ^ 40) (hj : j.natAbs < 2 ^ 40) : mulI (.int i) (.int j) = some (.int (i * j)) := by
  show (if decide (i.natAbs.log2 + j.natAbs.log2 < 1000000) then _ else _) = _
  have h1 := log2_le hi (by decide)
  have h2 := log2_le hj (by decide)
  rw [if_pos (decide_eq_true (by omega))]
theorem add_ii (i j : Int) : addD (.int i) (.int j) = some (.int (i + j)) := rfl
theorem pot_ok (ns : List Int) (k : Nat) (ps : Pt) (hk : k ≤ 63) : ∃ a b, f__law_pot [.list (ns.map .int), .int k] ps = some ([.int a, .int b], ps) ∧ POk (a, b) := by
  have hc : ∃ c : Int, eIf (asB (eOp ltI (eVar 1) (eCB (one lenD) (aCons (eVar 0) aNil)))) (eCB (one absD) (aCons (eOp ixD (eVar 0) (eVar 1)) aNil)) (eOp addD (eOp mulI (eC (.int 7)) (eVar 1)) (eC (.int 3))) [.dat (.list (ns.map .int)), .dat (.int k), .un] ps = some (.int c, ps) := by
    have e1 : asB (eOp ltI (eVar 1) (eCB (one lenD) (aCons (eVar 0) aNil))) [.dat (.list (ns.map .int)), .dat (.int k), .un] ps = some (decide ((k : Int) < (ns.length : Int)), ps) := by
      simp [asB, eOp, eVar, eCB, aCons, aNil, one, lenD, bindP, ltI, cmpI, onI2]
    by_cases hl : (k : Int) < (ns.length : Int)
    · obtain ⟨d, hd, e2⟩ := atI_ok (xs := ns.map PyData.int) (i := (k : Int)) (by omega) (by rw [List.length_map]; exact hl)
      obtain ⟨z, _, rfl⟩ := List.mem_map.mp hd
      refine ⟨if z < 0 then -z else z, ?_⟩
      unfold eIf
      rw [e1, bindP_some, if_pos (decide_eq_true hl)]
      have e3 : ixD (.list (ns.map .int)) (.int k) = some (.int z) := e2
      simp [eCB, aCons, aNil, eOp, eVar, bindP, e3, one, absD]
    · refine ⟨7 * k + 3, ?_⟩
      unfold eIf
      rw [e1, bindP_some, if_neg (by simpa using hl)]
      simp [eOp, eC, eVar, bindP, mul_ok (i := 7) (j := (k : Int)) (by decide) (by omega), add_ii]
  obtain ⟨c, hc⟩ := hc
  have h0 : 0 ≤ c % 2147483629 := Int.emod_nonneg _ (by decide)
  have h1 : c % 2147483629 < 2147483629 := Int.emod_lt_of_pos _ (by decide)
  refine ⟨if c - 1000000000000000000 > 0 then c - 1000000000000000000 else 0, (c % 2147483629 * 48271 + 60029 * k + 31) % 2147483647, ?_, Int.emod_nonneg _ (by decide), ?_⟩
  · unfold f__law_pot DL.runN sSet
    rw [show startD 3 [.list (ns.map .int), .int k] = [.dat (.list (ns.map .int)), .dat (.int k), .un] from rfl, hc]
    have p1 : powI (.int 10) (.int 18) = some (.int 1000000000000000000) := by rfl
    have s1 : subI (.int c) (.int 1000000000000000000) = some (.int (c - 1000000000000000000)) := rfl
    have m1 : modI (.int c) (.int 2147483629) = some (.int (c % 2147483629)) := rfl
    have m2 : mulI (.int (c % 2147483629)) (.int 48271) = some (.int (c % 2147483629 * 48271)) := mul_ok (by omega) (by decide)
    have m3 : mulI (.int 60029) (.int k) = some (.int (60029 * k)) := mul_ok (by decide) (by omega)
    have m4 : modI (.int (c % 2147483629 * 48271 + 60029 * k + 31)) (.int 2147483647) = some (.int ((c % 2147483629 * 48271 + 60029 * k + 31) % 2147483647)) := rfl
    simp [bindP, aCons, aNil, eCB, eOp, eC, eVar, p1, s1, m1, m2, m3, m4, max2, one, intD, add_ii, fitsL]
  · show (c % 2147483629 * 48271 + 60029 * k + 31) % 2147483647 < 2147483648
    have : (c % 2147483629 * 48271 + 60029 * k + 31) % 2147483647 < 2147483647 := Int.emod_lt_of_pos _ (by decide)
    omega
mutual
theorem wf_mono {v w : Nat} (h : v ≤ w) : ∀ d : PyData, wf v d = true → wf w d = true
  | .none, _ => by simp [wf]
  | .bool _, _ => by simp [wf]
  | .int _, e => by simpa only [wf] using e
  | .str _, e => by simpa only [wf] using e
  | .list ds, e => by
    rw [wf, Bool.and_eq_true, decide_eq_true_eq] at e ⊢
    exact ⟨Nat.le_trans e.1 h, wfL_mono h ds e.2⟩
  | .tuple ds, e => by
    rw [wf, Bool.and_eq_true, decide_eq_true_eq] at e ⊢
    exact ⟨Nat.le_trans e.1 h, wfL_mono h ds e.2⟩
  | .dict _, e => by simpa only [wf] using e
theorem wfL_mono {v w : Nat} (h : v ≤ w) : ∀ ds : List PyData, wfL v ds = true → wfL w ds = true
  | [], _ => by simp [wfL]
  | d :: ds, e => by
    rw [wfL, Bool.and_eq_true] at e ⊢
    exact ⟨wf_mono h d e.1, wfL_mono h ds e.2⟩
end
/-! ### spoilt items -/
def oddL : List PyData := [.none, .bool true, .bool false, .int (-1), .int 0, .int 1, .str (Str.ofString ""), .str (Str.ofString "u"), .str (Str.ofString "take"), .str (Str.ofString "ninechars"), .str (Str.ofString "A"), .tuple [], .list [], .int 100000000000000000000000000000, .str (Str.ofString "z"), .str (Str.ofString "a1")]
def itemL : List PyData := [.none, .tuple [], .tuple [.str (Str.ofString "u")], .tuple [.str (Str.ofString "u"), .int 1, .int 1], .list [.str (Str.ofString "u"), .int 1], .tuple [.bool true, .int 0], .tuple [.int 1, .int 0], .tuple [.str (Str.ofString "u"), .bool true], .str (Str.ofString "ab"), .int 0, .dict []]
/-- well formed, of so many levels -/
def nice (w k : Nat) (d : PyData) : Prop := wf w d = true ∧ d.depth ≤ k
theorem odd_nice {w : Nat} (hw : 5 ≤ w) : ∀ d ∈ oddL, nice w 1 d := by
  intro d hd
  have h5 : ∀ e : PyData, wf 5 e = true → wf w e = true := fun e he => wf_mono hw e he
  have key : ∀ e ∈ oddL, wf 5 e = true ∧ e.depth ≤ 1 := by decide +kernel
  exact ⟨h5 d (key d hd).1, (key d hd).2⟩
end K71

set_option Elab.async false
set_option linter.all false
set_option maxRecDepth 100000
set_option maxHeartbeats 2000000
/-! k71, the plain law: spoilt items and parts. -/
namespace K71
open PySem L2 DL
local instance : TBL := ⟨[]⟩
theorem item_nice {w : Nat} (hw : 5 ≤ w) : ∀ d ∈ itemL, nice w 2 d := by
  intro d hd
  have key : ∀ e ∈ itemL, wf 5 e = true ∧ e.depth ≤ 2 := by decide +kernel
  exact ⟨wf_mono hw d (key d hd).1, (key d hd).2⟩
theorem depthAll_le {k : Nat} : ∀ {xs : List PyData}, (∀ x ∈ xs, x.depth ≤ k) → PyData.depthAll xs ≤ k
  | [], _ => by simp [PyData.depthAll]
  | x :: r, h => by
    have h1 := h x List.mem_cons_self
    have h2 := depthAll_le (xs := r) fun y hy => h y (List.mem_cons_of_mem _ hy)
    simp only [PyData.depthAll]
    omega
theorem depthAll_mem {k : Nat} : ∀ {xs : List PyData}, PyData.depthAll xs ≤ k → ∀ x ∈ xs, x.depth ≤ k
  | [], _, x, hx => by simp at hx
  | y :: r, h, x, hx => by
    simp only [PyData.depthAll] at h
    rcases List.mem_cons.mp hx with rfl | hx
    · omega
    · exact depthAll_mem (xs := r) (by omega) x hx
theorem nice_tup {w k : Nat} {xs : List PyData} (h : ∀ x ∈ xs, nice w k x) (hl : xs.length ≤ w) : nice w (k + 1) (.tuple xs) := by
  refine ⟨wf_tup.mpr ⟨hl, fun x hx => (h x hx).1⟩, ?_⟩
  have := depthAll_le (k := k) fun x hx => (h x hx).2
  simp only [PyData.depth]
  omega
theorem nice_lst {w k : Nat} {xs : List PyData} (h : ∀ x ∈ xs, nice w k x) (hl : xs.length ≤ w) : nice w (k + 1) (.list xs) := by
  refine ⟨wf_lst.mpr ⟨hl, fun x hx => (h x hx).1⟩, ?_⟩
  have := depthAll_le (k := k) fun x hx => (h x hx).2
  simp only [PyData.depth]
  omega
theorem nice_mem {w k : Nat} {xs : List PyData} (h : nice w (k + 1) (.tuple xs)) : xs.length ≤ w ∧ ∀ x ∈ xs, nice w k x := by
  obtain ⟨h1, h2⟩ := wf_tup.mp h.1
  have h3 := h.2
  simp only [PyData.depth] at h3
  exact ⟨h1, fun x hx => ⟨h2 x hx, depthAll_mem (by omega) x hx⟩⟩
theorem nice_up {v w j k : Nat} {d : PyData} (h : nice v j d) (hw : v ≤ w) (hk : j ≤ k) : nice w k d := ⟨wf_mono hw d h.1, Nat.le_trans h.2 hk⟩
theorem draw_test {S0 : Sd} {ps : Pt} (m : Int) (h0 : S0[0]? = some (.dat potD)) (hm : 0 < m) (hm2 : m < 1073741824) (hp : POk ps) : ∃ (b : Bool) (p' : Pt), POk p' ∧ asB (eOp eqD (eCall f__law_draw (aCons (eVar 0) (aCons (eC (.int m)) aNil))) (eC (.int 0))) S0 ps = some (b, p') := by
  obtain ⟨v, e, v0, v1, ok⟩ := draw_ok (m := m) hp hm hm2
  have hv : eVar 0 S0 ps = some (potD, ps) := by
    unfold eVar
    rw [h0]
  exact ⟨decide (v = 0), _, ok, asB_at (eOp_at (eCall_at (aCons_two hv (g2 := eC (.int m)) rfl) e) (h := eC (.int 0)) rfl (eq_int v 0))⟩
theorem pick_at {S0 : Sd} {ps : Pt} {g : EG} {x : PyData} {ds : List PyData} (h0 : S0[0]? = some (.dat potD)) (hg : g S0 ps = some (x, ps)) (hx : x = .list ds ∨ x = .tuple ds) (hp : POk ps) (hl : 0 < ds.length) (hl2 : ds.length ≤ 1000) : ∃ d ∈ ds, ∃ p', POk p' ∧ eCall f__law_pick (aCons (eVar 0) (aCons g aNil)) S0 ps = some (d, p') := by
  obtain ⟨d, hd, p', e, ok⟩ := pick_ok hx hp hl hl2
  have hv : eVar 0 S0 ps = some (potD, ps) := by
    unfold eVar
    rw [h0]
  exact ⟨d, hd, p', ok, eCall_at (aCons_two hv hg) e⟩
theorem item_ok {w : Nat} (hw : 5 ≤ w) {d : PyData} {ps : Pt} (hp : POk ps) (h : nice w 2 d) : ∃ (e : PyData) (p' : Pt), POk p' ∧ nice w 2 e ∧ f__law_spoilt_item [potD, d] ps = some (e, p') := by
  have s1 : ∀ b : SG, sSeq (sSet 2 (eLst (aCons (eC .none) (aCons (eC (.bool true)) (aCons (eC (.bool false)) (aCons (eUn negI (eC (.int 1))) (aCons (eC (.int 0)) (aCons (eC (.int 1)) (aCons (eC (.str (Str.ofString ""))) (aCons (eC (.str (Str.ofString "u"))) (aCons (eC (.str (Str.ofString "take"))) (aCons (eC (.str (Str.ofString "ninechars"))) (aCons (eC (.str (Str.ofString "A"))) (aCons (eTup aNil) (aCons (eLst aNil) (aCons (eOp powI (eC (.int 10)) (eC (.int 29))) (aCons (eC (.str (Str.ofString "z"))) (aCons (eC (.str (Str.ofString "a1"))) aNil)))))))))))))))))) b [.dat potD, .dat d, .un, .un] ps = b [.dat potD, .dat d, .dat (.list oddL), .un] ps := fun b => sSeq_nx rfl
  have e1 : bNot (asB (eUn (isiD "tuple") (eVar 1))) [.dat potD, .dat d, .dat (.list oddL), .un] ps = some (!isT d, ps) := bNot_at (asB_at (eUn_at (g := eVar 1) rfl (isi_tup h.1)))
  obtain ⟨c0, hc0, q0, ok0, p0⟩ := pick_at (S0 := [.dat potD, .dat d, .dat (.list oddL), .un]) (ps := ps) (g := eLst (aCons (eC .none) (aCons (eTup aNil) (aCons (eTup (aCons (eC (.str (Str.ofString "u"))) aNil)) (aCons (eTup (aCons (eC (.str (Str.ofString "u"))) (aCons (eC (.int 1)) (aCons (eC (.int 1)) aNil)))) (aCons (eLst (aCons (eC (.str (Str.ofString "u"))) (aCons (eC (.int 1)) aNil))) (aCons (eTup (aCons (eC (.bool true)) (aCons (eC (.int 0)) aNil))) (aCons (eTup (aCons (eC (.int 1)) (aCons (eC (.int 0)) aNil))) (aCons (eTup (aCons (eC (.str (Str.ofString "u"))) (aCons (eC (.bool true)) aNil))) (aCons (eC (.str (Str.ofString "ab"))) (aCons (eC (.int 0)) (aCons (eC (.dict [])) aNil)))))))))))) (x := .list itemL) (ds := itemL) rfl rfl (.inl rfl) hp (by decide) (by decide)
  cases hd : isPair d with
  | false =>
    -- not a pair: a written item
    refine ⟨c0, q0, ok0, item_nice hw c0 hc0, run_rt ?_⟩
    show g__law_spoilt_item [.dat potD, .dat d, .un, .un] ps = _
    unfold g__law_spoilt_item
    rw [s1]
    have t : ∀ g : BG, bOr (bNot (asB (eUn (isiD "tuple") (eVar 1)))) (bOr (asB (eOp neD (eCB (one lenD) (aCons (eVar 1) aNil)) (eC (.int 2)))) g) [.dat potD, .dat d, .dat (.list oddL), .un] ps = some (true, ps) := fun g => by
      cases d with
      | tuple ds =>
        have e2 : asB (eOp neD (eCB (one lenD) (aCons (eVar 1) aNil)) (eC (.int 2))) [.dat potD, .dat (.tuple ds), .dat (.list oddL), .un] ps = some (!decide (ds.length = 2), ps) := by
          rw [← dec_int]
          exact asB_at (eOp_at (eCB_at (aCons_one (g1 := eVar 1) rfl) (show one lenD [.tuple ds] = some (.int ds.length) from rfl)) (h := eC (.int 2)) rfl (ne_int ds.length 2))
        have hl : ¬ ds.length = 2 := fun z => by
          match ds, z with
          | [a, b], _ => cases hd
        rw [decide_eq_false hl] at e2
        exact bOr_at (c := true) e1 (fun _ => bOr_at (c := true) (p2 := ps) e2 (fun z => by cases z) (fun _ => rfl)) (fun _ => rfl)
      | _ => exact bOr_at (c := true) (p2 := ps) e1 (fun z => by cases z) (fun _ => rfl)
    exact sSeq_rt (by rw [sIf_at (t _)]; exact sRet_at p0)
  | true =>
    obtain ⟨a, b, rfl⟩ := pair_inv hd
    obtain ⟨_, hab⟩ := nice_mem (k := 1) h
    have na := hab a (by simp)
    have nb := hab b (by simp)
    obtain ⟨b1, q1, ok1, t1⟩ := draw_test (S0 := [.dat potD, .dat (.tuple [a, b]), .dat (.list oddL), .un]) (ps := ps) 4 rfl (by decide) (by decide) hp
    have e2 : asB (eOp neD (eCB (one lenD) (aCons (eVar 1) aNil)) (eC (.int 2))) [.dat potD, .dat (.tuple [a, b]), .dat (.list oddL), .un] ps = some (false, ps) := asB_at (eOp_at (eCB_at (aCons_one (g1 := eVar 1) rfl) (show one lenD [.tuple [a, b]] = some (.int 2) from rfl)) (h := eC (.int 2)) rfl (ne_int 2 2))
    have t := bOr_at e1 (fun _ => bOr_at e2 (fun _ => t1) (fun z => by cases z)) (fun z => by cases z)
    cases b1 with
    | true =>
      obtain ⟨c1, hc1, q2, ok2, p1⟩ := pick_at (S0 := [.dat potD, .dat (.tuple [a, b]), .dat (.list oddL), .un]) (ps := q1) (g := eLst (aCons (eC .none) (aCons (eTup aNil) (aCons (eTup (aCons (eC (.str (Str.ofString "u"))) aNil)) (aCons (eTup (aCons (eC (.str (Str.ofString "u"))) (aCons (eC (.int 1)) (aCons (eC (.int 1)) aNil)))) (aCons (eLst (aCons (eC (.str (Str.ofString "u"))) (aCons (eC (.int 1)) aNil))) (aCons (eTup (aCons (eC (.bool true)) (aCons (eC (.int 0)) aNil))) (aCons (eTup (aCons (eC (.int 1)) (aCons (eC (.int 0)) aNil))) (aCons (eTup (aCons (eC (.str (Str.ofString "u"))) (aCons (eC (.bool true)) aNil))) (aCons (eC (.str (Str.ofString "ab"))) (aCons (eC (.int 0)) (aCons (eC (.dict [])) aNil)))))))))))) (x := .list itemL) (ds := itemL) rfl rfl (.inl rfl) ok1 (by decide) (by decide)
      refine ⟨c1, q2, ok2, item_nice hw c1 hc1, run_rt ?_⟩
      show g__law_spoilt_item [.dat potD, .dat (.tuple [a, b]), .un, .un] ps = _
      unfold g__law_spoilt_item
      rw [s1]
      exact sSeq_rt (by rw [sIf_at t]; exact sRet_at p1)
    | false =>
      obtain ⟨o, ho, q2, ok2, p1⟩ := pick_at (S0 := [.dat potD, .dat (.tuple [a, b]), .dat (.list oddL), .un]) (ps := q1) (g := eVar 2) (x := .list oddL) (ds := oddL) rfl rfl (.inl rfl) ok1 (by decide) (by decide)
      have no := odd_nice hw o ho
      obtain ⟨b2, q3, ok3, t2⟩ := draw_test (S0 := [.dat potD, .dat (.tuple [a, b]), .dat (.list oddL), .dat o]) (ps := q2) 2 rfl (by decide) (by decide) ok2
      refine ⟨if b2 then .tuple [o, b] else .tuple [a, o], q3, ok3, ?_, run_rt ?_⟩
      · cases b2 with
        | true => exact nice_tup (by simp; exact ⟨no, nb⟩) (by simp; omega)
        | false => exact nice_tup (by simp; exact ⟨na, no⟩) (by simp; omega)
      · show g__law_spoilt_item [.dat potD, .dat (.tuple [a, b]), .un, .un] ps = _
        unfold g__law_spoilt_item
        rw [s1, sSeq_nx (S1 := [.dat potD, .dat (.tuple [a, b]), .dat (.list oddL), .un]) (p := q1) (by rw [sIf_at t]; rfl), sSeq_nx (sSet_at p1)]
        apply sRet_at
        show eIf _ _ _ [.dat potD, .dat (.tuple [a, b]), .dat (.list oddL), .dat o] q2 = _
        unfold eIf
        rw [t2]
        cases b2 <;> rfl
end K71

set_option Elab.async false
set_option linter.all false
set_option maxRecDepth 100000
set_option maxHeartbeats 2000000
/-! k71, the plain law: spoilt parts. -/
namespace K71
open PySem L2 DL
local instance : TBL := ⟨[]⟩
def partL : List PyData := [.none, .int 0, .int (-1), .int 1, .bool true, .str (Str.ofString ""), .str (Str.ofString "ab"), .tuple [], .list [], .dict [], .tuple [.tuple []], .tuple [.none], .int 100000000000000000000000000000]
theorem part_nice {w : Nat} (hw : 5 ≤ w) : ∀ d ∈ partL, nice w 3 d := by
  intro d hd
  have key : ∀ e ∈ partL, wf 5 e = true ∧ e.depth ≤ 3 := by decide +kernel
  exact ⟨wf_mono hw d (key d hd).1, (key d hd).2⟩
def moreL : List PyData := [.tuple [.str (Str.ofString "x"), .int 1], .tuple [.str (Str.ofString "b"), .int 2], .tuple [.str (Str.ofString "uu"), .int 5], .tuple [.bool true, .int 3], .tuple [.str (Str.ofString "a"), .int 1]]
theorem more_nice {w : Nat} (hw : 5 ≤ w) : ∀ d ∈ moreL, nice w 2 d := by
  intro d hd
  have key : ∀ e ∈ moreL, wf 5 e = true ∧ e.depth ≤ 2 := by decide +kernel
  exact ⟨wf_mono hw d (key d hd).1, (key d hd).2⟩
theorem cut_hi (ds : List PyData) (k : Nat) : cutL ds none (some (k : Int)) = ds.take k := by
  unfold cutL
  rw [HT.sIx_nat, HT.sIx_none, List.drop_zero, Nat.sub_zero]
  by_cases h : k ≤ ds.length
  · rw [Nat.min_eq_left h]
  · rw [Nat.min_eq_right (by omega), List.take_length, List.take_of_length_le (by omega)]
theorem cut_lo (ds : List PyData) (k : Nat) : cutL ds (some (k : Int)) none = ds.drop k := by
  unfold cutL
  rw [HT.sIx_nat, HT.sIx_none]
  by_cases h : k ≤ ds.length
  · rw [Nat.min_eq_left h, List.take_of_length_le (by simp)]
  · rw [Nat.min_eq_right (by omega), List.drop_length, List.drop_of_length_le (by omega)]
    simp
theorem cut_mid (ds : List PyData) (k : Nat) : cutL ds (some (k : Int)) (some ((k + 1 : Nat) : Int)) = (ds.drop k).take 1 := by
  unfold cutL
  rw [HT.sIx_nat, HT.sIx_nat]
  by_cases h : k + 1 ≤ ds.length
  · rw [Nat.min_eq_left h, Nat.min_eq_left (by omega), Nat.add_sub_cancel_left]
  · rw [Nat.min_eq_right (show ds.length ≤ k by omega), List.drop_length, List.drop_of_length_le (by omega)]
    simp
theorem add_T {a b : List PyData} (h : a.length + b.length ≤ 1000) : addD (.tuple a) (.tuple b) = some (.tuple (a ++ b)) := by
  have h2 : a.length + b.length ≤ 16777216 := by omega
  show orD addI (orD addS (orD addL addT)) _ _ = _
  simp [orD, addI, onI2, addS, addL, addT, h2]
theorem sl_hi {S0 : Sd} {ps : Pt} {i j : Nat} {ds : List PyData} {k : Nat} (hi : S0[i]? = some (.dat (.tuple ds))) (hj : S0[j]? = some (.dat (.int k))) : eSl (eVar i) oNone (oSome (eVar j)) S0 ps = some (.tuple (ds.take k), ps) := by
  simp [eSl, eVar, hi, oNone, oSome, hj, bindP, slD, cut_hi]
theorem plus_at {S0 : Sd} {ps : Pt} {j : Nat} {k : Nat} {c : Int} (m : Nat) (hc : c = m) (hj : S0[j]? = some (.dat (.int k))) : eOp addD (eVar j) (eC (.int c)) S0 ps = some (.int ((k + m : Nat) : Int), ps) := by
  subst hc
  have e : addD (.int k) (.int m) = some (.int ((k + m : Nat) : Int)) := by
    show some (PyData.int ((k : Int) + (m : Int))) = _
    simp
  exact eOp_at (by unfold eVar; rw [hj]) rfl e
theorem sl_lo {S0 : Sd} {ps : Pt} {i : Nat} {g : EG} {ds : List PyData} {k : Nat} (hi : S0[i]? = some (.dat (.tuple ds))) (hg : g S0 ps = some (.int k, ps)) : eSl (eVar i) (oSome g) oNone S0 ps = some (.tuple (ds.drop k), ps) := by
  simp [eSl, eVar, hi, oNone, oSome, hg, bindP, slD, cut_lo]
theorem sl_mid {S0 : Sd} {ps : Pt} {i : Nat} {g h : EG} {ds : List PyData} {k : Nat} (hi : S0[i]? = some (.dat (.tuple ds))) (hg : g S0 ps = some (.int k, ps)) (hh : h S0 ps = some (.int ((k + 1 : Nat) : Int), ps)) : eSl (eVar i) (oSome g) (oSome h) S0 ps = some (.tuple ((ds.drop k).take 1), ps) := by
  unfold eSl oSome
  rw [show eVar i S0 ps = some (.tuple ds, ps) by unfold eVar; rw [hi], bindP_some, hg, bindP_some, hh, bindP_some]
  show (some (PyData.tuple (cutL ds (some (k : Int)) (some ((k + 1 : Nat) : Int))))).map _ = _
  rw [cut_mid]
  rfl
theorem var_at {S0 : Sd} {ps : Pt} {j : Nat} {d : PyData} (h : S0[j]? = some (.dat d)) : eVar j S0 ps = some (d, ps) := by
  unfold eVar
  rw [h]
theorem exchanged (ds : List PyData) (k : Nat) (ps : Pt) (hl : ds.length ≤ 100) : f__law_exchanged [.tuple ds, .int k] ps = some (.tuple (ds.take k ++ (ds.drop (k + 1)).take 1 ++ (ds.drop k).take 1 ++ ds.drop (k + 2)), ps) := by
  apply run_rt
  show g__law_exchanged [.dat (.tuple ds), .dat (.int k), .un, .un] ps = _
  unfold g__law_exchanged
  have p1 : sPar 2 3 (aCons (eSl (eVar 0) oNone (oSome (eVar 1))) (aCons (eSl (eVar 0) (oSome (eOp addD (eVar 1) (eC (.int 2)))) oNone) aNil)) [.dat (.tuple ds), .dat (.int k), .un, .un] ps = some (.nx [.dat (.tuple ds), .dat (.int k), .dat (.tuple (ds.take k)), .dat (.tuple (ds.drop (k + 2)))], ps) := by
    unfold sPar
    rw [aCons_two (sl_hi (i := 0) (j := 1) (ds := ds) (k := k) rfl rfl) (sl_lo (i := 0) (ds := ds) (k := k + 2) rfl (plus_at (j := 1) (k := k) (c := 2) 2 rfl rfl))]
    rfl
  rw [sSeq_nx p1]
  have a1 := sl_mid (S0 := [.dat (.tuple ds), .dat (.int k), .dat (.tuple (ds.take k)), .dat (.tuple (ds.drop (k + 2)))]) (ps := ps) (i := 0) (ds := ds) (k := k + 1) rfl (plus_at (j := 1) (k := k) (c := 1) 1 rfl rfl) (plus_at (j := 1) (k := k) (c := 2) 2 rfl rfl)
  have a2 := sl_mid (S0 := [.dat (.tuple ds), .dat (.int k), .dat (.tuple (ds.take k)), .dat (.tuple (ds.drop (k + 2)))]) (ps := ps) (i := 0) (g := eVar 1) (ds := ds) (k := k) rfl rfl (plus_at (j := 1) (k := k) (c := 1) 1 rfl rfl)
  have l1 : (ds.take k).length ≤ 100 := by rw [List.length_take]; omega
  have l2 : ((ds.drop (k + 1)).take 1).length ≤ 1 := by rw [List.length_take]; omega
  have l3 : ((ds.drop k).take 1).length ≤ 1 := by rw [List.length_take]; omega
  have l4 : (ds.drop (k + 2)).length ≤ 100 := by rw [List.length_drop]; omega
  exact sRet_at (eOp_at (eOp_at (eOp_at (g := eVar 2) rfl a1 (add_T (by omega))) a2 (add_T (by rw [List.length_append]; omega))) (h := eVar 3) rfl (add_T (by rw [List.length_append, List.length_append]; omega)))
end K71

set_option Elab.async false
set_option linter.all false
set_option maxRecDepth 100000
set_option maxHeartbeats 2000000
/-! k71, the plain law: a spoilt part is well formed. -/
namespace K71
open PySem L2 DL
local instance : TBL := ⟨[]⟩
theorem way_test {S0 : Sd} {ps : Pt} {v : Int} (k : Int) (h : S0[2]? = some (.dat (.int v))) : asB (eOp eqD (eVar 2) (eC (.int k))) S0 ps = some (decide (v = k), ps) := asB_at (eOp_at (var_at h) (h := eC (.int k)) rfl (eq_int v k))
theorem mid_cases (ds : List PyData) (k : Nat) : (ds.drop k).take 1 = [] ∨ ∃ x ∈ ds, (ds.drop k).take 1 = [x] := by
  cases h : ds.drop k with
  | nil => exact .inl rfl
  | cons x r => exact .inr ⟨x, List.mem_of_mem_drop (by rw [h]; exact List.mem_cons_self), rfl⟩
theorem len_td (ds : List PyData) (k j : Nat) : (ds.take k).length + (ds.drop (k + j)).length + j ≤ ds.length + j := by
  rw [List.length_take, List.length_drop]
  omega
/-- the last way: an item is spoilt -/
theorem lc_item {w : Nat} (hw : 5 ≤ w) {ds : List PyData} {k : Nat} {S0 : Sd} {ps : Pt} (hp : POk ps) (hn : ∀ x ∈ ds, nice w 2 x) (h0 : (wipeD S0 [6])[0]? = some (.dat potD)) (h6 : 6 < (wipeD S0 [6]).length) (hi : iOf (eSl (eVar 1) (oSome (eVar 3)) (oSome (eOp addD (eVar 3) (eC (.int 1))))) S0 ps = some ((ds.drop k).take 1, ps)) :
    ∃ (xs : List PyData) (p' : Pt), POk p' ∧ xs.length = ((ds.drop k).take 1).length ∧ (∀ x ∈ xs, nice w 2 x) ∧ eLc (iOf (eSl (eVar 1) (oSome (eVar 3)) (oSome (eOp addD (eVar 3) (eC (.int 1)))))) (tName 6) bYes (eCall f__law_spoilt_item (aCons (eVar 0) (aCons (eVar 6) aNil))) [6] S0 ps = some (.list xs, p') := by
  unfold eLc
  rw [hi, bindP_some]
  rcases mid_cases ds k with e | ⟨x, hx, e⟩
  · rw [e]
    exact ⟨[], ps, hp, rfl, by simp, rfl⟩
  · rw [e]
    obtain ⟨y, p', ok, ny, ey⟩ := item_ok hw hp (hn x hx)
    refine ⟨[y], p', ok, rfl, by simpa using ny, ?_⟩
    rw [if_pos (fits_of (by simp))]
    have hs : lcStep (tName 6) bYes (eCall f__law_spoilt_item (aCons (eVar 0) (aCons (eVar 6) aNil))) (wipeD S0 [6]) x ps = some (some y, p') := by
      unfold lcStep tName
      have h1 : ((wipeD S0 [6]).set 6 (.dat x))[0]? = some (.dat potD) := by
        rw [List.getElem?_set_ne (by decide)]
        exact h0
      have h2 : ((wipeD S0 [6]).set 6 (.dat x))[6]? = some (.dat x) := List.getElem?_set_self h6
      have e1 : eCall f__law_spoilt_item (aCons (eVar 0) (aCons (eVar 6) aNil)) ((wipeD S0 [6]).set 6 (.dat x)) ps = some (y, p') := eCall_at (aCons_two (var_at h1) (var_at h2)) ey
      simp only [bYes, bindP_some, if_true, e1]
    simp only [lcGo, hs, bindP_some, List.nil_append]
end K71

set_option Elab.async false
set_option linter.all false
set_option maxRecDepth 100000
set_option maxHeartbeats 4000000
/-! k71, the plain law: a spoilt part is well formed. -/
namespace K71
open PySem L2 DL
local instance : TBL := ⟨[]⟩
abbrev ePartL : EG := (eLst (aCons (eC .none) (aCons (eC (.int 0)) (aCons (eUn negI (eC (.int 1))) (aCons (eC (.int 1)) (aCons (eC (.bool true)) (aCons (eC (.str (Str.ofString ""))) (aCons (eC (.str (Str.ofString "ab"))) (aCons (eTup aNil) (aCons (eLst aNil) (aCons (eC (.dict [])) (aCons (eTup (aCons (eTup aNil) aNil)) (aCons (eTup (aCons (eC .none) aNil)) (aCons (eOp powI (eC (.int 10)) (eC (.int 29))) aNil))))))))))))))
abbrev eMoreL : EG := (eLst (aCons (eTup (aCons (eC (.str (Str.ofString "x"))) (aCons (eC (.int 1)) aNil))) (aCons (eTup (aCons (eC (.str (Str.ofString "b"))) (aCons (eC (.int 2)) aNil))) (aCons (eTup (aCons (eC (.str (Str.ofString "uu"))) (aCons (eC (.int 5)) aNil))) (aCons (eTup (aCons (eC (.bool true)) (aCons (eC (.int 3)) aNil))) (aCons (eTup (aCons (eC (.str (Str.ofString "a"))) (aCons (eC (.int 1)) aNil))) aNil))))))
theorem ePart_at (S0 : Sd) (ps : Pt) : ePartL S0 ps = some (.list partL, ps) := rfl
theorem eMore_at (S0 : Sd) (ps : Pt) : eMoreL S0 ps = some (.list moreL, ps) := rfl
theorem part_ok {w : Nat} (hw : 5 ≤ w) (hw2 : w ≤ 50) {d : PyData} {ps : Pt} (hp : POk ps) (h : nice w 3 d) : ∃ (e : PyData) (p' : Pt), POk p' ∧ nice (w + 1) 3 e ∧ f__law_spoilt_part [potD, d] ps = some (e, p') := by
  obtain ⟨v, ev, v0, v1, ok1⟩ := draw_ok (m := 7) hp (by decide) (by decide)
  have s1 : ∀ b : SG, sSeq (sSet 2 (eCall f__law_draw (aCons (eVar 0) (aCons (eC (.int 7)) aNil)))) b [.dat potD, .dat d, .un, .un, .un, .un, .un] ps = b [.dat potD, .dat d, .dat (.int v), .un, .un, .un, .un] (drawS 7 ps) := fun b => sSeq_nx (sSet_at (eCall_at (aCons_two (g1 := eVar 0) (g2 := eC (.int 7)) rfl rfl) ev))
  generalize drawS 7 ps = q at s1 ok1
  have e1 : bNot (asB (eUn (isiD "tuple") (eVar 1))) [.dat potD, .dat d, .dat (.int v), .un, .un, .un, .un] q = some (!isT d, q) := bNot_at (asB_at (eUn_at (g := eVar 1) rfl (isi_tup h.1)))
  have e2 := way_test (S0 := [.dat potD, .dat d, .dat (.int v), .un, .un, .un, .un]) (ps := q) (v := v) 0 rfl
  have t1 := bOr_at e1 (fun _ => e2) (fun _ => rfl)
  by_cases hc : (!isT d || decide (v = 0)) = true
  · obtain ⟨c, hcm, q2, ok2, pk⟩ := pick_at (S0 := [.dat potD, .dat d, .dat (.int v), .un, .un, .un, .un]) (ps := q) (g := ePartL) (x := .list partL) (ds := partL) rfl rfl (.inl rfl) ok1 (by decide) (by decide)
    refine ⟨c, q2, ok2, nice_up (part_nice hw c hcm) (by omega) (Nat.le_refl _), run_rt ?_⟩
    show g__law_spoilt_part [.dat potD, .dat d, .un, .un, .un, .un, .un] ps = _
    unfold g__law_spoilt_part
    rw [s1]
    rw [hc] at t1
    exact sSeq_rt (by rw [sIf_at t1]; exact sRet_at pk)
  · have hc' : (!isT d || decide (v = 0)) = false := by simpa using hc
    rw [hc'] at t1
    have ht : isT d = true := by
      cases hq : isT d with
      | true => rfl
      | false => rw [hq] at hc'; cases hc'
    cases d with
    | tuple ds =>
      obtain ⟨hl, hn⟩ := nice_mem (k := 2) h
      have w1 := way_test (S0 := [.dat potD, .dat (.tuple ds), .dat (.int v), .un, .un, .un, .un]) (ps := q) (v := v) 1 rfl
      have s2 : ∀ b : SG, sSeq (sIf (bOr (bNot (asB (eUn (isiD "tuple") (eVar 1)))) (asB (eOp eqD (eVar 2) (eC (.int 0))))) (sRet (eCall f__law_pick (aCons (eVar 0) (aCons ePartL aNil)))) sNil) b [.dat potD, .dat (.tuple ds), .dat (.int v), .un, .un, .un, .un] q = b [.dat potD, .dat (.tuple ds), .dat (.int v), .un, .un, .un, .un] q := fun b => sSeq_nx (by rw [sIf_at t1]; rfl)
      by_cases h1 : v = 1
      · refine ⟨.list ds, q, ok1, nice_lst (fun x hx => nice_up (hn x hx) (by omega) (Nat.le_refl _)) (by omega), run_rt ?_⟩
        show g__law_spoilt_part [.dat potD, .dat (.tuple ds), .un, .un, .un, .un, .un] ps = _
        unfold g__law_spoilt_part
        rw [s1, s2]
        rw [decide_eq_true h1] at w1
        exact sSeq_rt (by rw [sIf_at w1]; rfl)
      · rw [decide_eq_false h1] at w1
        obtain ⟨u, eu, u0, u1, ok2⟩ := draw_ok (m := ds.length + 1) ok1 (by omega) (by omega)
        obtain ⟨k, rfl⟩ : ∃ k : Nat, u = (k : Int) := ⟨u.toNat, by omega⟩
        generalize hq2 : drawS (ds.length + 1) q = q2 at eu ok2
        have hk : k ≤ ds.length := by omega
        have ea : eOp addD (eCB (one lenD) (aCons (eVar 1) aNil)) (eC (.int 1)) [.dat potD, .dat (.tuple ds), .dat (.int v), .un, .un, .un, .un] q = some (.int ((ds.length : Int) + 1), q) := eOp_at (eCB_at (aCons_one (g1 := eVar 1) rfl) (show one lenD [.tuple ds] = some (.int ds.length) from rfl)) (h := eC (.int 1)) rfl rfl
        have s3 : ∀ b : SG, sSeq (sIf (asB (eOp eqD (eVar 2) (eC (.int 1)))) (sRet (eCB (one listD) (aCons (eVar 1) aNil))) sNil) (sSeq (sSet 3 (eCall f__law_draw (aCons (eVar 0) (aCons (eOp addD (eCB (one lenD) (aCons (eVar 1) aNil)) (eC (.int 1))) aNil)))) b) [.dat potD, .dat (.tuple ds), .dat (.int v), .un, .un, .un, .un] q = b [.dat potD, .dat (.tuple ds), .dat (.int v), .dat (.int k), .un, .un, .un] q2 := fun b => by
          rw [sSeq_nx (S1 := [.dat potD, .dat (.tuple ds), .dat (.int v), .un, .un, .un, .un]) (p := q) (by rw [sIf_at w1]; rfl), sSeq_nx (sSet_at (eCall_at (aCons_two (g1 := eVar 0) rfl ea) eu))]
          rfl
        have hi := sl_hi (S0 := [.dat potD, .dat (.tuple ds), .dat (.int v), .dat (.int k), .un, .un, .un]) (ps := q2) (i := 1) (j := 3) (ds := ds) (k := k) rfl rfl
        have hp1 := plus_at (S0 := [.dat potD, .dat (.tuple ds), .dat (.int v), .dat (.int k), .un, .un, .un]) (ps := q2) (j := 3) (k := k) (c := 1) 1 rfl rfl
        have lo1 := sl_lo (S0 := [.dat potD, .dat (.tuple ds), .dat (.int v), .dat (.int k), .un, .un, .un]) (ps := q2) (i := 1) (ds := ds) (k := k + 1) rfl hp1
        have md := sl_mid (S0 := [.dat potD, .dat (.tuple ds), .dat (.int v), .dat (.int k), .un, .un, .un]) (ps := q2) (i := 1) (g := eVar 3) (ds := ds) (k := k) rfl rfl hp1
        have wt := fun c : Int => way_test (S0 := [.dat potD, .dat (.tuple ds), .dat (.int v), .dat (.int k), .un, .un, .un]) (ps := q2) (v := v) c rfl
        have mt : ∀ x ∈ ds.take k, nice (w + 1) 2 x := fun x hx => nice_up (hn x (List.mem_of_mem_take hx)) (by omega) (Nat.le_refl _)
        have md' : ∀ j, ∀ x ∈ ds.drop j, nice (w + 1) 2 x := fun j x hx => nice_up (hn x (List.mem_of_mem_drop hx)) (by omega) (Nat.le_refl _)
        have mm : ∀ j, ∀ x ∈ (ds.drop j).take 1, nice (w + 1) 2 x := fun j x hx => md' j x (List.mem_of_mem_take hx)
        have ll : ∀ j, ((ds.drop j).take 1).length ≤ 1 := fun j => by rw [List.length_take]; omega
        have lt : (ds.take k).length = k := by rw [List.length_take]; omega
        have ld : ∀ j, (ds.drop j).length = ds.length - j := fun j => List.length_drop
        have nsk : ∀ (c : Int) (a b : SG), v ≠ c → sSeq (sIf (asB (eOp eqD (eVar 2) (eC (.int c)))) a sNil) b [.dat potD, .dat (.tuple ds), .dat (.int v), .dat (.int k), .un, .un, .un] q2 = b [.dat potD, .dat (.tuple ds), .dat (.int v), .dat (.int k), .un, .un, .un] q2 := fun c a b hv => sSeq_nx (by
          have := wt c
          rw [decide_eq_false hv] at this
          rw [sIf_at this]
          rfl)
        have ysk : ∀ (c : Int) (a b : SG) (e : PyData) (p' : Pt), v = c → a [.dat potD, .dat (.tuple ds), .dat (.int v), .dat (.int k), .un, .un, .un] q2 = some (.rt e, p') → sSeq (sIf (asB (eOp eqD (eVar 2) (eC (.int c)))) a sNil) b [.dat potD, .dat (.tuple ds), .dat (.int v), .dat (.int k), .un, .un, .un] q2 = some (.rt e, p') := fun c a b e p' hv ha => sSeq_rt (by
          have := wt c
          rw [decide_eq_true hv] at this
          rw [sIf_at this]
          exact ha)
        have lm : ((ds.drop k).take 1).length = min 1 (ds.length - k) := by rw [List.length_take, List.length_drop]
        have lm1 : ((ds.drop (k + 1)).take 1).length = min 1 (ds.length - (k + 1)) := by rw [List.length_take, List.length_drop]
        by_cases h2 : v = 2
        · refine ⟨.tuple (ds.take k ++ ds.drop (k + 1)), q2, ok2, nice_tup (fun x hx => (List.mem_append.mp hx).elim (mt x) (md' _ x)) (by rw [List.length_append, lt, ld]; omega), run_rt ?_⟩
          show g__law_spoilt_part [.dat potD, .dat (.tuple ds), .un, .un, .un, .un, .un] ps = _
          unfold g__law_spoilt_part
          rw [s1, s2, s3]
          exact ysk 2 _ _ _ _ h2 (sRet_at (eOp_at hi lo1 (add_T (by rw [lt, ld]; omega))))
        · by_cases h3 : v = 3
          · have er : ∃ ms : List PyData, eOp repT (eSl (eVar 1) (oSome (eVar 3)) (oSome (eOp addD (eVar 3) (eC (.int 1))))) (eC (.int 2)) [.dat potD, .dat (.tuple ds), .dat (.int v), .dat (.int k), .un, .un, .un] q2 = some (.tuple ms, q2) ∧ ms.length = 2 * ((ds.drop k).take 1).length ∧ ∀ x ∈ ms, nice (w + 1) 2 x := by
              have hm := mm k
              rcases mid_cases ds k with e | ⟨x, hx, e⟩
              · rw [e] at md
                refine ⟨[], eOp_at md (h := eC (.int 2)) rfl rfl, by rw [e]; rfl, by simp⟩
              · rw [e] at md
                rw [e] at hm
                refine ⟨[x, x], eOp_at md (h := eC (.int 2)) rfl rfl, by rw [e]; rfl, ?_⟩
                have := hm x (by simp)
                simpa using this
            obtain ⟨ms, er, lms, nms⟩ := er
            refine ⟨.tuple (ds.take k ++ ms ++ ds.drop (k + 1)), q2, ok2, nice_tup (fun x hx => (List.mem_append.mp hx).elim (fun y => (List.mem_append.mp y).elim (mt x) (nms x)) (md' _ x)) (by rw [List.length_append, List.length_append, lt, ld, lms, lm]; omega), run_rt ?_⟩
            show g__law_spoilt_part [.dat potD, .dat (.tuple ds), .un, .un, .un, .un, .un] ps = _
            unfold g__law_spoilt_part
            rw [s1, s2, s3, nsk 2 _ _ h2]
            exact ysk 3 _ _ _ _ h3 (sRet_at (eOp_at (eOp_at hi er (add_T (by rw [lt, lms, lm]; omega))) lo1 (add_T (by rw [List.length_append, lt, ld, lms, lm]; omega))))
          · by_cases h4 : v = 4
            · refine ⟨.tuple (ds.take k ++ (ds.drop (k + 1)).take 1 ++ (ds.drop k).take 1 ++ ds.drop (k + 2)), q2, ok2, nice_tup (fun x hx => (List.mem_append.mp hx).elim (fun y => (List.mem_append.mp y).elim (fun y => (List.mem_append.mp y).elim (mt x) (mm _ x)) (mm _ x)) (md' _ x)) (by rw [List.length_append, List.length_append, List.length_append, lt, ld, lm, lm1]; omega), run_rt ?_⟩
              show g__law_spoilt_part [.dat potD, .dat (.tuple ds), .un, .un, .un, .un, .un] ps = _
              unfold g__law_spoilt_part
              rw [s1, s2, s3, nsk 2 _ _ h2, nsk 3 _ _ h3]
              exact ysk 4 _ _ _ _ h4 (sRet_at (eCall_at (aCons_two (g1 := eVar 1) (g2 := eVar 3) rfl rfl) (exchanged ds k q2 (by omega))))
            · by_cases h5 : v = 5
              · obtain ⟨c, hcm, q3, ok3, pk⟩ := pick_at (S0 := [.dat potD, .dat (.tuple ds), .dat (.int v), .dat (.int k), .un, .un, .un]) (ps := q2) (g := eMoreL) (x := .list moreL) (ds := moreL) rfl rfl (.inl rfl) ok2 (by decide) (by decide)
                have nc := more_nice (show 5 ≤ w + 1 by omega) c hcm
                refine ⟨.tuple (ds.take k ++ [c] ++ ds.drop k), q3, ok3, nice_tup (fun x hx => (List.mem_append.mp hx).elim (fun y => (List.mem_append.mp y).elim (mt x) (fun z => by rw [List.mem_singleton] at z; rw [z]; exact nc)) (md' _ x)) (by rw [List.length_append, List.length_append, lt, ld, List.length_singleton]; omega), run_rt ?_⟩
                show g__law_spoilt_part [.dat potD, .dat (.tuple ds), .un, .un, .un, .un, .un] ps = _
                unfold g__law_spoilt_part
                rw [s1, s2, s3, nsk 2 _ _ h2, nsk 3 _ _ h3, nsk 4 _ _ h4]
                refine ysk 5 _ _ _ _ h5 ?_
                rw [sSeq_nx (sSet_at pk)]
                have hi' := sl_hi (S0 := [.dat potD, .dat (.tuple ds), .dat (.int v), .dat (.int k), .un, .dat c, .un]) (ps := q3) (i := 1) (j := 3) (ds := ds) (k := k) rfl rfl
                have lo' := sl_lo (S0 := [.dat potD, .dat (.tuple ds), .dat (.int v), .dat (.int k), .un, .dat c, .un]) (ps := q3) (i := 1) (g := eVar 3) (ds := ds) (k := k) rfl rfl
                exact sRet_at (eOp_at (eOp_at hi' (h := eTup (aCons (eVar 5) aNil)) rfl (add_T (b := [c]) (by rw [lt, List.length_singleton]; omega))) lo' (add_T (by rw [List.length_append, lt, ld, List.length_singleton]; omega)))
              · obtain ⟨xs, q3, ok3, lx, nx, ex⟩ := lc_item hw (ds := ds) (k := k) (S0 := [.dat potD, .dat (.tuple ds), .dat (.int v), .dat (.int k), .un, .un, .un]) (ps := q2) ok2 hn rfl (by simp [wipeD]) (by
                  unfold iOf
                  rw [md]
                  rfl)
                refine ⟨.tuple (ds.take k ++ xs ++ ds.drop (k + 1)), q3, ok3, nice_tup (fun x hx => (List.mem_append.mp hx).elim (fun y => (List.mem_append.mp y).elim (mt x) (fun z => nice_up (nx x z) (by omega) (Nat.le_refl _))) (md' _ x)) (by rw [List.length_append, List.length_append, lt, ld, lx, lm]; omega), run_rt ?_⟩
                show g__law_spoilt_part [.dat potD, .dat (.tuple ds), .un, .un, .un, .un, .un] ps = _
                unfold g__law_spoilt_part
                rw [s1, s2, s3, nsk 2 _ _ h2, nsk 3 _ _ h3, nsk 4 _ _ h4, nsk 5 _ _ h5, sSeq_nx (sSet_at ex)]
                have hi' := sl_hi (S0 := [.dat potD, .dat (.tuple ds), .dat (.int v), .dat (.int k), .dat (.list xs), .un, .un]) (ps := q3) (i := 1) (j := 3) (ds := ds) (k := k) rfl rfl
                have hp1' := plus_at (S0 := [.dat potD, .dat (.tuple ds), .dat (.int v), .dat (.int k), .dat (.list xs), .un, .un]) (ps := q3) (j := 3) (k := k) (c := 1) 1 rfl rfl
                have lo' := sl_lo (S0 := [.dat potD, .dat (.tuple ds), .dat (.int v), .dat (.int k), .dat (.list xs), .un, .un]) (ps := q3) (i := 1) (ds := ds) (k := k + 1) rfl hp1'
                exact sRet_at (eOp_at (eOp_at hi' (eCB_at (o := one tupleD) (aCons_one (g1 := eVar 4) rfl) (show one tupleD [.list xs] = some (.tuple xs) from rfl)) (add_T (by rw [lt, lx, lm]; omega))) lo' (add_T (by rw [List.length_append, lt, ld, lx, lm]; omega)))
    | _ => cases ht
end K71

set_option Elab.async false
set_option linter.all false
set_option maxRecDepth 100000
set_option maxHeartbeats 4000000
/-! k71, the plain law: a spoilt thing is well formed. -/
namespace K71
open PySem L2 DL
local instance : TBL := ⟨[]⟩
def thingL : List PyData := [.none, .tuple [], .list [], .int 0, .str (Str.ofString ""), .dict [], .bool true, .int 4]
theorem thing_nice {w : Nat} (hw : 5 ≤ w) : ∀ d ∈ thingL, nice w 4 d := by
  intro d hd
  have key : ∀ e ∈ thingL, wf 5 e = true ∧ e.depth ≤ 4 := by decide +kernel
  exact ⟨wf_mono hw d (key d hd).1, (key d hd).2⟩
abbrev eThingL : EG := (eLst (aCons (eC .none) (aCons (eTup aNil) (aCons (eLst aNil) (aCons (eC (.int 0)) (aCons (eC (.str (Str.ofString ""))) (aCons (eC (.dict [])) (aCons (eC (.bool true)) (aCons (eC (.int 4)) aNil)))))))))
abbrev eOtherL : EG := (eLst (aCons (eSl (eVar 1) oNone (oSome (eC (.int 3)))) (aCons (eSl (eVar 1) (oSome (eC (.int 1))) oNone) (aCons (eOp addD (eVar 1) (eTup (aCons (eC (.int 0)) aNil))) (aCons (eOp addD (eVar 1) (eTup (aCons (eTup aNil) aNil))) (aCons (eCB (one listD) (aCons (eVar 1) aNil)) aNil))))))
theorem lt_int (i j : Int) : ltI (.int i) (.int j) = some (.bool (decide (i < j))) := rfl
theorem thing_ok {w : Nat} (hw : 5 ≤ w) (hw2 : w ≤ 40) {d : PyData} {ps : Pt} (hp : POk ps) (h : nice w 4 d) : ∃ (e : PyData) (p' : Pt), POk p' ∧ nice (w + 1) 4 e ∧ f__law_spoilt [potD, d] ps = some (e, p') := by
  have e1 : bNot (asB (eUn (isiD "tuple") (eVar 1))) [.dat potD, .dat d, .un] ps = some (!isT d, ps) := bNot_at (asB_at (eUn_at (g := eVar 1) rfl (isi_tup h.1)))
  have done : ∀ q : Pt, POk q → bOr (bNot (asB (eUn (isiD "tuple") (eVar 1)))) (bOr (asB (eOp ltI (eCB (one lenD) (aCons (eVar 1) aNil)) (eC (.int 4)))) (asB (eOp eqD (eCall f__law_draw (aCons (eVar 0) (aCons (eC (.int 8)) aNil))) (eC (.int 0))))) [.dat potD, .dat d, .un] ps = some (true, q) → ∃ (e : PyData) (p' : Pt), POk p' ∧ nice (w + 1) 4 e ∧ f__law_spoilt [potD, d] ps = some (e, p') := fun q okq t => by
    obtain ⟨c, hcm, q2, ok2, pk⟩ := pick_at (S0 := [.dat potD, .dat d, .un]) (ps := q) (g := eThingL) (x := .list thingL) (ds := thingL) rfl rfl (.inl rfl) okq (by decide) (by decide)
    refine ⟨c, q2, ok2, nice_up (thing_nice hw c hcm) (by omega) (Nat.le_refl _), run_rt ?_⟩
    show g__law_spoilt [.dat potD, .dat d, .un] ps = _
    unfold g__law_spoilt
    exact sSeq_rt (by rw [sIf_at t]; exact sRet_at pk)
  cases d with
  | tuple ds =>
    obtain ⟨hl, hn⟩ := nice_mem (k := 3) h
    have e2 : asB (eOp ltI (eCB (one lenD) (aCons (eVar 1) aNil)) (eC (.int 4))) [.dat potD, .dat (.tuple ds), .un] ps = some (decide ((ds.length : Int) < 4), ps) := asB_at (eOp_at (eCB_at (aCons_one (g1 := eVar 1) rfl) (show one lenD [.tuple ds] = some (.int ds.length) from rfl)) (h := eC (.int 4)) rfl (lt_int ds.length 4))
    by_cases h4 : (ds.length : Int) < 4
    · rw [decide_eq_true h4] at e2
      exact done ps hp (bOr_at (c := true) e1 (fun _ => bOr_at (c := true) (p2 := ps) e2 (fun z => by cases z) (fun _ => rfl)) (fun _ => rfl))
    · rw [decide_eq_false h4] at e2
      obtain ⟨b1, q1, ok1, t1⟩ := draw_test (S0 := [.dat potD, .dat (.tuple ds), .un]) (ps := ps) 8 rfl (by decide) (by decide) hp
      have t := bOr_at e1 (fun _ => bOr_at e2 (fun _ => t1) (fun z => by cases z)) (fun z => by cases z)
      cases b1 with
      | true => exact done q1 ok1 t
      | false =>
        have s1 : ∀ b : SG, sSeq (sIf (bOr (bNot (asB (eUn (isiD "tuple") (eVar 1)))) (bOr (asB (eOp ltI (eCB (one lenD) (aCons (eVar 1) aNil)) (eC (.int 4)))) (asB (eOp eqD (eCall f__law_draw (aCons (eVar 0) (aCons (eC (.int 8)) aNil))) (eC (.int 0)))))) (sRet (eCall f__law_pick (aCons (eVar 0) (aCons eThingL aNil)))) sNil) b [.dat potD, .dat (.tuple ds), .un] ps = b [.dat potD, .dat (.tuple ds), .un] q1 := fun b => sSeq_nx (by rw [sIf_at t]; rfl)
        obtain ⟨b2, q2, ok2, t2⟩ := draw_test (S0 := [.dat potD, .dat (.tuple ds), .un]) (ps := q1) 8 rfl (by decide) (by decide) ok1
        have nt : ∀ x ∈ ds, nice (w + 1) 3 x := fun x hx => nice_up (hn x hx) (by omega) (Nat.le_refl _)
        cases b2 with
        | true =>
          have o1 : eOtherL [.dat potD, .dat (.tuple ds), .un] q2 = some (.list [.tuple (ds.take 3), .tuple (ds.drop 1), .tuple (ds ++ [.int 0]), .tuple (ds ++ [.tuple []]), .list ds], q2) := by
            have a1 : eSl (eVar 1) oNone (oSome (eC (.int 3))) [.dat potD, .dat (.tuple ds), .un] q2 = some (.tuple (ds.take 3), q2) := by
              have := cut_hi ds 3
              simp only [eSl, eVar, oNone, oSome, eC, bindP_some, List.getElem?_cons_succ, List.getElem?_cons_zero, slD]
              rw [show (3 : Int) = ((3 : Nat) : Int) from rfl, this]
              rfl
            have a2 : eSl (eVar 1) (oSome (eC (.int 1))) oNone [.dat potD, .dat (.tuple ds), .un] q2 = some (.tuple (ds.drop 1), q2) := by
              have := cut_lo ds 1
              simp only [eSl, eVar, oNone, oSome, eC, bindP_some, List.getElem?_cons_succ, List.getElem?_cons_zero, slD]
              rw [show (1 : Int) = ((1 : Nat) : Int) from rfl, this]
              rfl
            have a3 : eOp addD (eVar 1) (eTup (aCons (eC (.int 0)) aNil)) [.dat potD, .dat (.tuple ds), .un] q2 = some (.tuple (ds ++ [.int 0]), q2) := eOp_at (g := eVar 1) rfl (h := eTup (aCons (eC (.int 0)) aNil)) rfl (add_T (by rw [List.length_singleton]; omega))
            have a4 : eOp addD (eVar 1) (eTup (aCons (eTup aNil) aNil)) [.dat potD, .dat (.tuple ds), .un] q2 = some (.tuple (ds ++ [.tuple []]), q2) := eOp_at (g := eVar 1) rfl (h := eTup (aCons (eTup aNil) aNil)) rfl (add_T (by rw [List.length_singleton]; omega))
            have a5 : eCB (one listD) (aCons (eVar 1) aNil) [.dat potD, .dat (.tuple ds), .un] q2 = some (.list ds, q2) := rfl
            unfold eOtherL eLst
            simp only [aCons, aNil, a1, a2, a3, a4, a5, bindP_some]
            rfl
          obtain ⟨c, hcm, q3, ok3, pk⟩ := pick_at (S0 := [.dat potD, .dat (.tuple ds), .un]) (ps := q2) (g := eOtherL) (ds := [.tuple (ds.take 3), .tuple (ds.drop 1), .tuple (ds ++ [.int 0]), .tuple (ds ++ [.tuple []]), .list ds]) rfl o1 (.inl rfl) ok2 (by simp) (by simp)
          have n0 : nice (w + 1) 3 (.int 0) := by
            refine ⟨?_, by simp [PyData.depth]⟩
            rw [wf]
            decide
          have n1 : nice (w + 1) 3 (.tuple []) := nice_tup (k := 2) (by simp) (by simp)
          refine ⟨c, q3, ok3, ?_, run_rt ?_⟩
          · simp only [List.mem_cons, List.not_mem_nil, or_false] at hcm
            rcases hcm with rfl | rfl | rfl | rfl | rfl
            · exact nice_tup (fun x hx => nt x (List.mem_of_mem_take hx)) (by rw [List.length_take]; omega)
            · exact nice_tup (fun x hx => nt x (List.mem_of_mem_drop hx)) (by rw [List.length_drop]; omega)
            · exact nice_tup (fun x hx => (List.mem_append.mp hx).elim (nt x) fun z => by rw [List.mem_singleton] at z; rw [z]; exact n0) (by rw [List.length_append, List.length_singleton]; omega)
            · exact nice_tup (fun x hx => (List.mem_append.mp hx).elim (nt x) fun z => by rw [List.mem_singleton] at z; rw [z]; exact n1) (by rw [List.length_append, List.length_singleton]; omega)
            · exact nice_lst nt (by omega)
          · show g__law_spoilt [.dat potD, .dat (.tuple ds), .un] ps = _
            unfold g__law_spoilt
            rw [s1]
            exact sSeq_rt (by rw [sIf_at t2]; exact sRet_at pk)
        | false =>
          obtain ⟨u, eu, u0, u1, ok3⟩ := draw_ok (m := 4) ok2 (by decide) (by decide)
          obtain ⟨k, rfl⟩ : ∃ k : Nat, u = (k : Int) := ⟨u.toNat, by omega⟩
          generalize drawS 4 q2 = q3 at eu ok3
          have hk : k < ds.length := by omega
          obtain ⟨y, q4, ok4, ny, ey⟩ := part_ok hw (by omega) ok3 (hn ds[k] (List.getElem_mem hk))
          have hix : ixD (.tuple ds) (.int k) = some ds[k] := by
            show atI ds k = _
            unfold atI ixN
            rw [if_pos (by omega), if_pos (by omega)]
            simp [hk]
          have p1 : eCall f__law_spoilt_part (aCons (eVar 0) (aCons (eOp ixD (eVar 1) (eVar 2)) aNil)) [.dat potD, .dat (.tuple ds), .dat (.int k)] q3 = some (y, q4) := eCall_at (aCons_two (g1 := eVar 0) rfl (eOp_at (g := eVar 1) (h := eVar 2) rfl rfl hix)) ey
          have hi := sl_hi (S0 := [.dat potD, .dat (.tuple ds), .dat (.int k)]) (ps := q3) (i := 1) (j := 2) (ds := ds) (k := k) rfl rfl
          have hp1 := plus_at (S0 := [.dat potD, .dat (.tuple ds), .dat (.int k)]) (ps := q4) (j := 2) (k := k) (c := 1) 1 rfl rfl
          have lo := sl_lo (S0 := [.dat potD, .dat (.tuple ds), .dat (.int k)]) (ps := q4) (i := 1) (ds := ds) (k := k + 1) rfl hp1
          have et : eTup (aCons (eCall f__law_spoilt_part (aCons (eVar 0) (aCons (eOp ixD (eVar 1) (eVar 2)) aNil))) aNil) [.dat potD, .dat (.tuple ds), .dat (.int k)] q3 = some (.tuple [y], q4) := by
            unfold eTup
            rw [aCons_one p1]
            rfl
          have lt : (ds.take k).length = k := by rw [List.length_take]; omega
          have ld : (ds.drop (k + 1)).length = ds.length - (k + 1) := List.length_drop
          refine ⟨.tuple (ds.take k ++ [y] ++ ds.drop (k + 1)), q4, ok4, nice_tup (fun x hx => (List.mem_append.mp hx).elim (fun z => (List.mem_append.mp z).elim (fun z => nt x (List.mem_of_mem_take z)) fun z => by rw [List.mem_singleton] at z; rw [z]; exact ny) (fun z => nt x (List.mem_of_mem_drop z))) (by rw [List.length_append, List.length_append, lt, ld, List.length_singleton]; omega), run_rt ?_⟩
          show g__law_spoilt [.dat potD, .dat (.tuple ds), .un] ps = _
          unfold g__law_spoilt
          rw [s1, sSeq_nx (S1 := [.dat potD, .dat (.tuple ds), .un]) (p := q2) (by rw [sIf_at t2]; rfl), sSeq_nx (sSet_at (eCall_at (aCons_two (g1 := eVar 0) (g2 := eC (.int 4)) rfl rfl) eu))]
          exact sRet_at (eOp_at (eOp_at hi et (add_T (by rw [lt, List.length_singleton]; omega))) lo (add_T (by rw [List.length_append, lt, ld, List.length_singleton]; omega)))
  | _ => exact done ps hp (bOr_at (c := true) (p2 := ps) e1 (fun z => by cases z) (fun _ => rfl))
end K71

set_option Elab.async false
set_option linter.all false
set_option maxRecDepth 100000
set_option maxHeartbeats 4000000
/-! k71, the plain law: the context that is drawn is one. -/
namespace K71
open PySem L2 DL
local instance : TBL := ⟨[]⟩
/-- a comprehension that draws: each item gives one that stands to it in R -/
theorem lc_rel {α : Type} {e : α → PyData} {R : α → PyData → Prop} {it : AG} {t : Tgt} {elt : EG} {vs : List Nat} {S0 : Sd} {ps : Pt} {xs : List α} (hi : it S0 ps = some (xs.map e, ps)) (hp : POk ps) (hl : xs.length ≤ 1000) (h : ∀ x ∈ xs, ∀ p, POk p → ∃ (y : PyData) (p' : Pt), POk p' ∧ R x y ∧ lcStep t bYes elt (wipeD S0 vs) (e x) p = some (some y, p')) :
    ∃ (ys : List PyData) (p' : Pt), POk p' ∧ Paired R xs ys ∧ eLc it t bYes elt vs S0 ps = some (.list ys, p') := by
  unfold eLc
  rw [hi, bindP_some, if_pos (fits_of (by rw [List.length_map]; exact hl))]
  have key : ∀ (us : List α) (acc : List PyData) (p : Pt), POk p → (∀ u ∈ us, u ∈ xs) → ∃ (ys : List PyData) (p' : Pt), POk p' ∧ Paired R us ys ∧ lcGo (lcStep t bYes elt (wipeD S0 vs)) (us.map e) p acc = some (acc ++ ys, p') := by
    intro us
    induction us with
    | nil => exact fun acc p hp _ => ⟨[], p, hp, .nil, by simp [lcGo]⟩
    | cons u r ih =>
      intro acc p hp hu
      obtain ⟨y, p1, ok1, hr, e1⟩ := h u (hu u List.mem_cons_self) p hp
      obtain ⟨ys, p2, ok2, hrs, e2⟩ := ih (acc ++ [y]) p1 ok1 fun z hz => hu z (List.mem_cons_of_mem _ hz)
      refine ⟨y :: ys, p2, ok2, .cons hr hrs, ?_⟩
      rw [List.map_cons]
      unfold lcGo
      rw [e1, bindP_some]
      show lcGo _ _ p1 (acc ++ [y]) = _
      rw [e2, List.append_assoc]
      rfl
  obtain ⟨ys, p', ok, hr, e1⟩ := key xs [] ps hp fun u hu => hu
  refine ⟨ys, p', ok, hr, ?_⟩
  rw [e1]
  rfl
/-- a comprehension over texts with a test that draws -/
theorem lc_some {it : AG} {t : Tgt} {test : BG} {elt : EG} {vs : List Nat} {S0 : Sd} {ps : Pt} {xs : List Str} (hi : it S0 ps = some (xs.map PyData.str, ps)) (hp : POk ps) (hl : xs.length ≤ 1000) (h : ∀ x ∈ xs, ∀ p, POk p → ∃ (b : Bool) (p' : Pt), POk p' ∧ lcStep t test elt (wipeD S0 vs) (.str x) p = some (if b then some (.str x) else none, p')) :
    ∃ (ys : List Str) (p' : Pt), POk p' ∧ ys.Sublist xs ∧ eLc it t test elt vs S0 ps = some (.list (ys.map PyData.str), p') := by
  unfold eLc
  rw [hi, bindP_some, if_pos (fits_of (by rw [List.length_map]; exact hl))]
  have key : ∀ (us acc : List Str) (p : Pt), POk p → (∀ u ∈ us, u ∈ xs) → ∃ (zs : List Str) (p' : Pt), POk p' ∧ zs.Sublist us ∧ lcGo (lcStep t test elt (wipeD S0 vs)) (us.map PyData.str) p (acc.map PyData.str) = some ((acc ++ zs).map PyData.str, p') := by
    intro us
    induction us with
    | nil => exact fun acc p hp _ => ⟨[], p, hp, List.Sublist.refl _, by simp [lcGo]⟩
    | cons u r ih =>
      intro acc p hp hu
      obtain ⟨b, p1, ok1, e1⟩ := h u (hu u List.mem_cons_self) p hp
      rw [List.map_cons]
      unfold lcGo
      rw [e1, bindP_some]
      cases b with
      | true =>
        obtain ⟨zs, p2, ok2, hz, e2⟩ := ih (acc ++ [u]) p1 ok1 fun z hz => hu z (List.mem_cons_of_mem _ hz)
        refine ⟨u :: zs, p2, ok2, hz.cons_cons u, ?_⟩
        rw [List.map_append, List.append_assoc] at e2
        exact e2
      | false =>
        obtain ⟨zs, p2, ok2, hz, e2⟩ := ih acc p1 ok1 fun z hz => hu z (List.mem_cons_of_mem _ hz)
        exact ⟨zs, p2, ok2, hz.cons u, e2⟩
  obtain ⟨zs, p', ok, hz, e1⟩ := key xs [] ps hp fun u hu => hu
  refine ⟨zs, p', ok, hz, ?_⟩
  rw [List.map_nil] at e1
  rw [e1]
  rfl
/-- a name with a number from 1 on -/
def RN (z : Str) (y : PyData) : Prop := ∃ i : Int, y = .tuple [.str z, .int i] ∧ 1 ≤ i ∧ i.natAbs.log2 < 100
theorem rn_all {zs : List Str} {ys : List PyData} (h : Paired RN zs ys) (hz : ∀ z ∈ zs, nameS z = true) : ys.all pairOk = true ∧ ys.map nm = zs ∧ ys.length = zs.length := by
  induction h with
  | nil => exact ⟨rfl, rfl, rfl⟩
  | cons r _ ih =>
    obtain ⟨i, rfl, h1, _⟩ := r
    obtain ⟨a, b, c⟩ := ih fun z hz' => hz z (List.mem_cons_of_mem _ hz')
    refine ⟨?_, ?_, by rw [List.length_cons, List.length_cons, c]⟩
    · rw [List.all_cons, a, Bool.and_true]
      show (true && (nameS _ && decide ((1 : Int) ≤ i))) = true
      rw [hz _ List.mem_cons_self, decide_eq_true h1]
      rfl
    · rw [List.map_cons, b]
      rfl
end K71

set_option Elab.async false
set_option linter.all false
set_option maxRecDepth 100000
set_option maxHeartbeats 4000000
/-! k71, the plain law: the context that is drawn is one. -/
namespace K71
open PySem L2 DL
local instance : TBL := ⟨[]⟩
def RP (_ : PyData) (y : PyData) : Prop := ∃ (b : Bool) (i : Int), y = .tuple [.bool b, .int i] ∧ 0 ≤ i ∧ i.natAbs.log2 < 100
theorem rp_all {xs ys : List PyData} (h : Paired RP xs ys) : ys.all passOk = true ∧ ys.length = xs.length := by
  induction h with
  | nil => exact ⟨rfl, rfl⟩
  | cons r _ ih =>
    obtain ⟨b, i, rfl, h1, _⟩ := r
    refine ⟨?_, by rw [List.length_cons, List.length_cons, ih.2]⟩
    rw [List.all_cons, ih.1, Bool.and_true]
    show (true && (true && decide ((0 : Int) ≤ i))) = true
    rw [decide_eq_true h1]
    rfl
theorem nice_int {w : Nat} {i : Int} (h : i.natAbs.log2 < 100) : nice w 0 (.int i) := by
  refine ⟨?_, by simp [PyData.depth]⟩
  rw [wf]
  exact decide_eq_true h
theorem rp_nice {w : Nat} (hw : 2 ≤ w) {xs ys : List PyData} (h : Paired RP xs ys) : ∀ y ∈ ys, nice w 1 y := by
  induction h with
  | nil => simp
  | cons r _ ih =>
    intro y hy
    rcases List.mem_cons.mp hy with rfl | hy
    · obtain ⟨b, i, rfl, h1, h2⟩ := r
      have n1 : nice w 0 (.bool b) := ⟨by simp [wf], by simp [PyData.depth]⟩
      exact nice_tup (by simp; exact ⟨n1, nice_int h2⟩) (by simp; omega)
    · exact ih y hy
theorem rn_nice {w : Nat} (hw : 2 ≤ w) {zs : List Str} {ys : List PyData} (h : Paired RN zs ys) (hz : ∀ z ∈ zs, wf 5 (.str z) = true) : ∀ y ∈ ys, nice w 1 y := by
  induction h with
  | nil => simp
  | cons r _ ih =>
    intro y hy
    rcases List.mem_cons.mp hy with rfl | hy
    · obtain ⟨i, rfl, h1, h2⟩ := r
      have h3 := hz _ List.mem_cons_self
      have n1 : nice w 0 (.str _) := ⟨by simpa only [wf] using h3, by simp [PyData.depth]⟩
      exact nice_tup (by simp; exact ⟨n1, nice_int h2⟩) (by simp; omega)
    · exact ih (fun z hz' => hz z (List.mem_cons_of_mem _ hz')) y hy
end K71

set_option Elab.async false
set_option linter.all false
set_option maxRecDepth 100000
set_option maxHeartbeats 4000000
/-! k71, the plain law: steps of the context that is drawn. -/
namespace K71
open PySem L2 DL
local instance : TBL := ⟨[]⟩
theorem draw_val {S0 : Sd} {ps : Pt} (m : Int) (h0 : S0[0]? = some (.dat potD)) (hm : 0 < m) (hm2 : m < 1073741824) (hp : POk ps) : ∃ (b : Bool) (p' : Pt), POk p' ∧ eOp eqD (eCall f__law_draw (aCons (eVar 0) (aCons (eC (.int m)) aNil))) (eC (.int 0)) S0 ps = some (.bool b, p') := by
  obtain ⟨v, e, v0, v1, ok⟩ := draw_ok (m := m) hp hm hm2
  exact ⟨decide (v = 0), _, ok, eOp_at (eCall_at (aCons_two (var_at h0) (g2 := eC (.int m)) rfl) e) (h := eC (.int 0)) rfl (eq_int v 0)⟩
/-- a name and a number that is picked -/
theorem step_name {S1 : Sd} {ps : Pt} {j : Nat} {z : Str} {g : EG} {is : List Int} (h0 : S1[0]? = some (.dat potD)) (hj : S1[j]? = some (.dat (.str z))) (hg : ∀ p, g S1 p = some (.list (is.map .int), p)) (hl : 0 < is.length) (hl2 : is.length ≤ 1000) (hi : ∀ i ∈ is, 1 ≤ i ∧ i.natAbs.log2 < 100) (hp : POk ps) :
    ∃ (y : PyData) (p' : Pt), POk p' ∧ RN z y ∧ eTup (aCons (eVar j) (aCons (eCall f__law_pick (aCons (eVar 0) (aCons g aNil))) aNil)) S1 ps = some (y, p') := by
  obtain ⟨d, hd, p', ok, pk⟩ := pick_at (ds := is.map .int) h0 (hg ps) (.inl rfl) hp (by rw [List.length_map]; exact hl) (by rw [List.length_map]; exact hl2)
  obtain ⟨i, him, rfl⟩ := List.mem_map.mp hd
  refine ⟨.tuple [.str z, .int i], p', ok, ⟨i, rfl, hi i him⟩, ?_⟩
  unfold eTup
  rw [aCons_two (var_at hj) pk]
  rfl
theorem step_pass {S1 : Sd} {ps : Pt} {d : PyData} {g : EG} {is : List Int} (h0 : S1[0]? = some (.dat potD)) (hg : ∀ p, g S1 p = some (.list (is.map .int), p)) (hl : 0 < is.length) (hl2 : is.length ≤ 1000) (hi : ∀ i ∈ is, 0 ≤ i ∧ i.natAbs.log2 < 100) (hp : POk ps) :
    ∃ (y : PyData) (p' : Pt), POk p' ∧ RP d y ∧ eTup (aCons (eOp eqD (eCall f__law_draw (aCons (eVar 0) (aCons (eC (.int 2)) aNil))) (eC (.int 0))) (aCons (eCall f__law_pick (aCons (eVar 0) (aCons g aNil))) aNil)) S1 ps = some (y, p') := by
  obtain ⟨b, p1, ok1, e1⟩ := draw_val 2 h0 (by decide) (by decide) hp
  obtain ⟨d, hd, p', ok, pk⟩ := pick_at (ds := is.map .int) h0 (hg p1) (.inl rfl) ok1 (by rw [List.length_map]; exact hl) (by rw [List.length_map]; exact hl2)
  obtain ⟨i, him, rfl⟩ := List.mem_map.mp hd
  refine ⟨.tuple [.bool b, .int i], p', ok, ⟨b, i, rfl, hi i him⟩, ?_⟩
  unfold eTup
  rw [aCons_two e1 pk]
  rfl
end K71

set_option Elab.async false
set_option linter.all false
set_option maxRecDepth 100000
set_option maxHeartbeats 4000000
/-! k71, the plain law: the context that is drawn is one. -/
namespace K71
open PySem L2 DL
local instance : TBL := ⟨[]⟩
theorem lcS_dr {t : Tgt} {elt : EG} {S S1 : Sd} {x y : PyData} {ps p' : Pt} (ht : t x S = some S1) (he : elt S1 ps = some (y, p')) : lcStep t bYes elt S x ps = some (some y, p') := by
  unfold lcStep
  rw [ht]
  simp only [bYes, bindP_some, he, if_true]
def tuvwx : List Str := [Str.ofString "t", Str.ofString "u", Str.ofString "v", Str.ofString "w", Str.ofString "x"]
def abhz : List Str := [Str.ofString "a", Str.ofString "b", Str.ofString "heap", Str.ofString "z"]
theorem tuv_ok : (∀ z ∈ tuvwx, nameS z = true ∧ wf 5 (.str z) = true) ∧ ascS tuvwx = true := by decide +kernel
theorem abh_ok : (∀ z ∈ abhz, nameS z = true ∧ wf 5 (.str z) = true) ∧ ascS abhz = true := by decide +kernel
theorem asc_sub {zs ys : List Str} (h : ascS zs = true) (hs : ys.Sublist zs) : ascS ys = true := (asc_pw ys).mpr (((asc_pw zs).mp h).sublist hs)
theorem pairs_of {zs full : List Str} {ys : List PyData} (h : Paired RN zs ys) (hs : zs.Sublist full) (hf : (∀ z ∈ full, nameS z = true ∧ wf 5 (.str z) = true) ∧ ascS full = true) : pairsOk (.tuple ys) = true ∧ ys.length = zs.length ∧ ∀ y ∈ ys, nice 6 1 y := by
  have hz : ∀ z ∈ zs, nameS z = true := fun z hz => (hf.1 z (hs.subset hz)).1
  obtain ⟨a, b, c⟩ := rn_all h hz
  refine ⟨?_, c, rn_nice (by decide) h fun z hz => (hf.1 z (hs.subset hz)).2⟩
  show (ys.all pairOk && ascS (ys.map nm)) = true
  rw [a, b, asc_sub hf.2 hs]
  rfl
theorem aCons_at {g : EG} {gs : AG} {S0 : Sd} {p0 p p1 : Pt} {x : PyData} {xs : List PyData} (h1 : g S0 p0 = some (x, p)) (h2 : gs S0 p = some (xs, p1)) : aCons g gs S0 p0 = some (x :: xs, p1) := by
  simp only [aCons, h1, h2, bindP_some]
theorem sl_lst {S0 : Sd} {ps q : Pt} {g h : EG} {ds : List PyData} {k : Nat} (hg : g S0 ps = some (.list ds, ps)) (hh : h S0 ps = some (.int (k : Nat), q)) : eSl g oNone (oSome h) S0 ps = some (.list (ds.take k), q) := by
  have := cut_hi ds k
  simp only [eSl, hg, oNone, oSome, hh, bindP_some, slD]
  rw [this]
  rfl
theorem context_ok {cs : List PyData} {ps : Pt} (hp : POk ps) (hc : cs.length ≤ 5) : ∃ (p' : Pt) (pa ha si : List PyData) (be : Int), POk p' ∧ f__law_context [potD, .tuple cs] ps = some (.tuple [.tuple pa, .tuple ha, .tuple si, .int be], p') ∧ ctx cs.length (.tuple [.tuple pa, .tuple ha, .tuple si, .int be]) = true ∧ nice 6 3 (.tuple [.tuple pa, .tuple ha, .tuple si, .int be]) := by
  -- passed
  have hid : cs.map (fun d => d) = cs := List.map_id cs
  obtain ⟨pa, p1, ok1, r1, e1⟩ := lc_rel (e := fun d : PyData => d) (R := RP) (it := iOf (eVar 1)) (t := tName 8) (elt := eTup (aCons (eOp eqD (eCall f__law_draw (aCons (eVar 0) (aCons (eC (.int 2)) aNil))) (eC (.int 0))) (aCons (eCall f__law_pick (aCons (eVar 0) (aCons (eLst (aCons (eC (.int 0)) (aCons (eC (.int 1)) (aCons (eC (.int 5)) (aCons (eOp powI (eC (.int 10)) (eC (.int 12))) aNil))))) aNil))) aNil))) (vs := [8]) (S0 := [.dat potD, .dat (.tuple cs), .un, .un, .un, .un, .un, .un, .un, .un]) (ps := ps) (xs := cs) (by rw [hid]; rfl) hp (by omega) fun d hd p hp => by
    obtain ⟨y, p', ok, hr, e⟩ := step_pass (S1 := [.dat potD, .dat (.tuple cs), .un, .un, .un, .un, .un, .un, .dat d, .un]) (d := d) (g := eLst (aCons (eC (.int 0)) (aCons (eC (.int 1)) (aCons (eC (.int 5)) (aCons (eOp powI (eC (.int 10)) (eC (.int 12))) aNil))))) (is := [0, 1, 5, 1000000000000]) rfl (fun _ => rfl) (by decide) (by decide) (by decide) hp
    refine ⟨y, p', ok, hr, ?_⟩
    exact lcS_dr (S1 := [.dat potD, .dat (.tuple cs), .un, .un, .un, .un, .un, .un, .dat d, .un]) rfl e
  have s1 : ∀ b : SG, sSeq (sSet 2 (eCB (one tupleD) (aCons (eLc (iOf (eVar 1)) (tName 8) bYes (eTup (aCons (eOp eqD (eCall f__law_draw (aCons (eVar 0) (aCons (eC (.int 2)) aNil))) (eC (.int 0))) (aCons (eCall f__law_pick (aCons (eVar 0) (aCons (eLst (aCons (eC (.int 0)) (aCons (eC (.int 1)) (aCons (eC (.int 5)) (aCons (eOp powI (eC (.int 10)) (eC (.int 12))) aNil))))) aNil))) aNil))) [8]) aNil))) b [.dat potD, .dat (.tuple cs), .un, .un, .un, .un, .un, .un, .un, .un] ps = b [.dat potD, .dat (.tuple cs), .dat (.tuple pa), .un, .un, .un, .un, .un, .un, .un] p1 := fun b => sSeq_nx (sSet_at (eCB_at (o := one tupleD) (aCons_one e1) (show one tupleD [.list pa] = some (.tuple pa) from rfl)))
  -- names
  obtain ⟨ns, p2, ok2, hns, e2⟩ := lc_some (it := iOf (eLst (aCons (eC (.str (Str.ofString "t"))) (aCons (eC (.str (Str.ofString "u"))) (aCons (eC (.str (Str.ofString "v"))) (aCons (eC (.str (Str.ofString "w"))) (aCons (eC (.str (Str.ofString "x"))) aNil))))))) (t := tName 7) (test := asB (eOp eqD (eCall f__law_draw (aCons (eVar 0) (aCons (eC (.int 2)) aNil))) (eC (.int 0)))) (elt := eVar 7) (vs := [7]) (S0 := [.dat potD, .dat (.tuple cs), .dat (.tuple pa), .un, .un, .un, .un, .un, .un, .un]) (ps := p1) (xs := tuvwx) rfl ok1 (by decide) fun z hz p hp => by
    obtain ⟨b, p', ok, e⟩ := draw_test (S0 := [.dat potD, .dat (.tuple cs), .dat (.tuple pa), .un, .un, .un, .un, .dat (.str z), .un, .un]) (ps := p) 2 rfl (by decide) (by decide) hp
    refine ⟨b, p', ok, ?_⟩
    unfold lcStep
    rw [show tName 7 (.str z) (wipeD [.dat potD, .dat (.tuple cs), .dat (.tuple pa), .un, .un, .un, .un, .un, .un, .un] [7]) = some [.dat potD, .dat (.tuple cs), .dat (.tuple pa), .un, .un, .un, .un, .dat (.str z), .un, .un] from rfl]
    dsimp only
    rw [e, bindP_some]
    cases b <;> rfl
  have s2 : ∀ b : SG, sSeq (sSet 3 (eLc (iOf (eLst (aCons (eC (.str (Str.ofString "t"))) (aCons (eC (.str (Str.ofString "u"))) (aCons (eC (.str (Str.ofString "v"))) (aCons (eC (.str (Str.ofString "w"))) (aCons (eC (.str (Str.ofString "x"))) aNil))))))) (tName 7) (asB (eOp eqD (eCall f__law_draw (aCons (eVar 0) (aCons (eC (.int 2)) aNil))) (eC (.int 0)))) (eVar 7) [7])) b [.dat potD, .dat (.tuple cs), .dat (.tuple pa), .un, .un, .un, .un, .un, .un, .un] p1 = b [.dat potD, .dat (.tuple cs), .dat (.tuple pa), .dat (.list (ns.map .str)), .un, .un, .un, .un, .un, .un] p2 := fun b => sSeq_nx (sSet_at e2)
  have hnl : ns.length ≤ 5 := hns.length_le
  -- handlers
  obtain ⟨ha, p3, ok3, r3, e3⟩ := lc_rel (e := PyData.str) (R := RN) (it := iOf (eVar 3)) (t := tName 7) (elt := eTup (aCons (eVar 7) (aCons (eCall f__law_pick (aCons (eVar 0) (aCons (eLst (aCons (eC (.int 1)) (aCons (eC (.int 7)) (aCons (eOp powI (eC (.int 10)) (eC (.int 25))) aNil)))) aNil))) aNil))) (vs := [7]) (S0 := [.dat potD, .dat (.tuple cs), .dat (.tuple pa), .dat (.list (ns.map .str)), .un, .un, .un, .un, .un, .un]) (ps := p2) (xs := ns) rfl ok2 (by omega) fun z hz p hp => by
    obtain ⟨y, p', ok, hr, e⟩ := step_name (S1 := [.dat potD, .dat (.tuple cs), .dat (.tuple pa), .dat (.list (ns.map .str)), .un, .un, .un, .dat (.str z), .un, .un]) (j := 7) (z := z) (g := eLst (aCons (eC (.int 1)) (aCons (eC (.int 7)) (aCons (eOp powI (eC (.int 10)) (eC (.int 25))) aNil)))) (is := [1, 7, 10000000000000000000000000]) rfl rfl (fun _ => rfl) (by decide) (by decide) (by decide) hp
    exact ⟨y, p', ok, hr, lcS_dr (S1 := [.dat potD, .dat (.tuple cs), .dat (.tuple pa), .dat (.list (ns.map .str)), .un, .un, .un, .dat (.str z), .un, .un]) rfl e⟩
  have s3 : ∀ b : SG, sSeq (sSet 4 (eCB (one tupleD) (aCons (eLc (iOf (eVar 3)) (tName 7) bYes (eTup (aCons (eVar 7) (aCons (eCall f__law_pick (aCons (eVar 0) (aCons (eLst (aCons (eC (.int 1)) (aCons (eC (.int 7)) (aCons (eOp powI (eC (.int 10)) (eC (.int 25))) aNil)))) aNil))) aNil))) [7]) aNil))) b [.dat potD, .dat (.tuple cs), .dat (.tuple pa), .dat (.list (ns.map .str)), .un, .un, .un, .un, .un, .un] p2 = b [.dat potD, .dat (.tuple cs), .dat (.tuple pa), .dat (.list (ns.map .str)), .dat (.tuple ha), .un, .un, .un, .un, .un] p3 := fun b => sSeq_nx (sSet_at (eCB_at (o := one tupleD) (aCons_one e3) (show one tupleD [.list ha] = some (.tuple ha) from rfl)))
  -- frames
  obtain ⟨u, eu, u0, u1, ok4⟩ := draw_ok (m := 2) ok3 (by decide) (by decide)
  obtain ⟨k, rfl⟩ : ∃ k : Nat, u = (k : Int) := ⟨u.toNat, by omega⟩
  generalize drawS 2 p3 = p4 at eu ok4
  have e4 : eSl (eLst (aCons (eC (.str (Str.ofString "a"))) (aCons (eC (.str (Str.ofString "b"))) (aCons (eC (.str (Str.ofString "heap"))) (aCons (eC (.str (Str.ofString "z"))) aNil))))) oNone (oSome (eOp addD (eC (.int 3)) (eCall f__law_draw (aCons (eVar 0) (aCons (eC (.int 2)) aNil))))) [.dat potD, .dat (.tuple cs), .dat (.tuple pa), .dat (.list (ns.map .str)), .dat (.tuple ha), .un, .un, .un, .un, .un] p3 = some (.list ((abhz.take (3 + k)).map .str), p4) := by
    have a1 : eOp addD (eC (.int 3)) (eCall f__law_draw (aCons (eVar 0) (aCons (eC (.int 2)) aNil))) [.dat potD, .dat (.tuple cs), .dat (.tuple pa), .dat (.list (ns.map .str)), .dat (.tuple ha), .un, .un, .un, .un, .un] p3 = some (.int ((3 + k : Nat) : Int), p4) := eOp_at (g := eC (.int 3)) rfl (eCall_at (aCons_two (g1 := eVar 0) (g2 := eC (.int 2)) rfl rfl) eu) (by rw [add_ii]; congr 2)
    have a2 := sl_lst (S0 := [.dat potD, .dat (.tuple cs), .dat (.tuple pa), .dat (.list (ns.map .str)), .dat (.tuple ha), .un, .un, .un, .un, .un]) (ps := p3) (q := p4) (g := eLst (aCons (eC (.str (Str.ofString "a"))) (aCons (eC (.str (Str.ofString "b"))) (aCons (eC (.str (Str.ofString "heap"))) (aCons (eC (.str (Str.ofString "z"))) aNil))))) (ds := abhz.map .str) (k := 3 + k) rfl a1
    rw [a2, List.map_take]
  have s4 : ∀ b : SG, sSeq (sSet 5 (eSl (eLst (aCons (eC (.str (Str.ofString "a"))) (aCons (eC (.str (Str.ofString "b"))) (aCons (eC (.str (Str.ofString "heap"))) (aCons (eC (.str (Str.ofString "z"))) aNil))))) oNone (oSome (eOp addD (eC (.int 3)) (eCall f__law_draw (aCons (eVar 0) (aCons (eC (.int 2)) aNil))))))) b [.dat potD, .dat (.tuple cs), .dat (.tuple pa), .dat (.list (ns.map .str)), .dat (.tuple ha), .un, .un, .un, .un, .un] p3 = b [.dat potD, .dat (.tuple cs), .dat (.tuple pa), .dat (.list (ns.map .str)), .dat (.tuple ha), .dat (.list ((abhz.take (3 + k)).map .str)), .un, .un, .un, .un] p4 := fun b => sSeq_nx (sSet_at e4)
  have hfs : (abhz.take (3 + k)).Sublist abhz := List.take_sublist _ _
  have hfl : (abhz.take (3 + k)).length ≤ 4 := hfs.length_le
  generalize hfd : abhz.take (3 + k) = fs at s4 hfs hfl
  -- sizes
  obtain ⟨si, p5, ok5, r5, e5⟩ := lc_rel (e := PyData.str) (R := RN) (it := iOf (eVar 5)) (t := tName 9) (elt := eTup (aCons (eVar 9) (aCons (eCall f__law_pick (aCons (eVar 0) (aCons (eLst (aCons (eC (.int 1)) (aCons (eC (.int 2)) (aCons (eC (.int 3)) (aCons (eC (.int 50)) (aCons (eOp powI (eC (.int 10)) (eC (.int 20))) aNil)))))) aNil))) aNil))) (vs := [9]) (S0 := [.dat potD, .dat (.tuple cs), .dat (.tuple pa), .dat (.list (ns.map .str)), .dat (.tuple ha), .dat (.list (fs.map .str)), .un, .un, .un, .un]) (ps := p4) (xs := fs) rfl ok4 (by omega) fun z hz p hp => by
    obtain ⟨y, p', ok, hr, e⟩ := step_name (S1 := [.dat potD, .dat (.tuple cs), .dat (.tuple pa), .dat (.list (ns.map .str)), .dat (.tuple ha), .dat (.list (fs.map .str)), .un, .un, .un, .dat (.str z)]) (j := 9) (z := z) (g := eLst (aCons (eC (.int 1)) (aCons (eC (.int 2)) (aCons (eC (.int 3)) (aCons (eC (.int 50)) (aCons (eOp powI (eC (.int 10)) (eC (.int 20))) aNil)))))) (is := [1, 2, 3, 50, 100000000000000000000]) rfl rfl (fun _ => rfl) (by decide) (by decide) (by decide) hp
    exact ⟨y, p', ok, hr, lcS_dr (S1 := [.dat potD, .dat (.tuple cs), .dat (.tuple pa), .dat (.list (ns.map .str)), .dat (.tuple ha), .dat (.list (fs.map .str)), .un, .un, .un, .dat (.str z)]) rfl e⟩
  have s5 : ∀ b : SG, sSeq (sSet 6 (eCB (one tupleD) (aCons (eLc (iOf (eVar 5)) (tName 9) bYes (eTup (aCons (eVar 9) (aCons (eCall f__law_pick (aCons (eVar 0) (aCons (eLst (aCons (eC (.int 1)) (aCons (eC (.int 2)) (aCons (eC (.int 3)) (aCons (eC (.int 50)) (aCons (eOp powI (eC (.int 10)) (eC (.int 20))) aNil)))))) aNil))) aNil))) [9]) aNil))) b [.dat potD, .dat (.tuple cs), .dat (.tuple pa), .dat (.list (ns.map .str)), .dat (.tuple ha), .dat (.list (fs.map .str)), .un, .un, .un, .un] p4 = b [.dat potD, .dat (.tuple cs), .dat (.tuple pa), .dat (.list (ns.map .str)), .dat (.tuple ha), .dat (.list (fs.map .str)), .dat (.tuple si), .un, .un, .un] p5 := fun b => sSeq_nx (sSet_at (eCB_at (o := one tupleD) (aCons_one e5) (show one tupleD [.list si] = some (.tuple si) from rfl)))
  -- behind
  obtain ⟨d, hd, p6, ok6, pk⟩ := pick_at (S0 := [.dat potD, .dat (.tuple cs), .dat (.tuple pa), .dat (.list (ns.map .str)), .dat (.tuple ha), .dat (.list (fs.map .str)), .dat (.tuple si), .un, .un, .un]) (ps := p5) (g := eLst (aCons (eC (.int 0)) (aCons (eC (.int 1)) (aCons (eC (.int 9)) (aCons (eOp powI (eC (.int 10)) (eC (.int 22))) aNil))))) (ds := [0, 1, 9, 10000000000000000000000].map PyData.int) rfl rfl (.inl rfl) ok5 (by decide) (by decide)
  obtain ⟨be, hbe, rfl⟩ := List.mem_map.mp hd
  have hb : ∀ i ∈ [(0 : Int), 1, 9, 10000000000000000000000], 0 ≤ i ∧ i.natAbs.log2 < 100 := by decide
  obtain ⟨hb0, hb1⟩ := hb be hbe
  obtain ⟨ca, la⟩ := rp_all r1
  obtain ⟨ch, lh, nh⟩ := pairs_of r3 hns tuv_ok
  obtain ⟨cz, lz, nz⟩ := pairs_of r5 hfs abh_ok
  have na := rp_nice (w := 6) (by decide) r1
  refine ⟨p6, pa, ha, si, be, ok6, run_rt ?_, ?_, ?_⟩
  · show g__law_context [.dat potD, .dat (.tuple cs), .un, .un, .un, .un, .un, .un, .un, .un] ps = _
    unfold g__law_context
    rw [s1, s2, s3, s4, s5]
    refine sRet_at ?_
    unfold eTup
    rw [aCons_at (g := eVar 2) (p := p5) rfl (aCons_at (g := eVar 4) (p := p5) rfl (aCons_at (g := eVar 6) (p := p5) rfl (aCons_one pk)))]
    rfl
  · show (decide (pa.length = cs.length) && pa.all passOk && (pairsOk (.tuple ha) && fewOk (.tuple ha)) && (pairsOk (.tuple si) && decide ((0 : Int) ≤ be))) = true
    rw [decide_eq_true la, ca, ch, cz, decide_eq_true hb0]
    show (true && decide _ && true) = true
    rw [decide_eq_true (by omega)]
    rfl
  · refine nice_tup (k := 2) (fun x hx => ?_) (by simp)
    simp only [List.mem_cons, List.not_mem_nil, or_false] at hx
    rcases hx with rfl | rfl | rfl | rfl
    · exact nice_tup na (by omega)
    · exact nice_tup nh (by omega)
    · exact nice_tup nz (by omega)
    · exact nice_up (nice_int (w := 6) hb1) (Nat.le_refl _) (by decide)
end K71

set_option Elab.async false
set_option linter.all false
set_option maxRecDepth 100000
set_option maxHeartbeats 4000000
/-! k71, the plain law: all turns, and the law. -/
namespace K71
open PySem L2 DL
local instance : TBL := ⟨[]⟩
theorem for_inv {t : Tgt} {body : SG} {I : Nat → Sd → Prop} : ∀ (xs : List PyData) (k : Nat) (h : ∀ x ∈ xs, ∀ (j : Nat) (S : Sd) (p : Pt), j < k + xs.length → I j S → POk p → ∃ (S0 S1 : Sd) (p' : Pt), t x S = some S0 ∧ body S0 p = some (.nx S1, p') ∧ I (j + 1) S1 ∧ POk p') (S : Sd) (p : Pt), I k S → POk p → ∃ (S1 : Sd) (p' : Pt), forGo t body xs S p = some (.nx S1, p') ∧ I (k + xs.length) S1 ∧ POk p'
  | [], k, _, S, p, hI, hp => ⟨S, p, rfl, hI, hp⟩
  | x :: xs, k, h, S, p, hI, hp => by
    obtain ⟨S0, S1, p1, e0, e1, i1, ok1⟩ := h x List.mem_cons_self k S p (by simp) hI hp
    obtain ⟨S2, p2, e2, i2, ok2⟩ := for_inv xs (k + 1) (fun y hy j S p hj => h y (List.mem_cons_of_mem _ hy) j S p (by rw [List.length_cons]; omega)) S1 p1 i1 ok1
    refine ⟨S2, p2, ?_, ?_, ok2⟩
    · unfold forGo
      rw [e0]
      dsimp only
      rw [e1]
      exact e2
    · rw [List.length_cons, show k + (xs.length + 1) = k + 1 + xs.length by omega]
      exact i2
def callsL : List PyData := [.tuple [], .tuple [.str (Str.ofString "c")], .tuple [.str (Str.ofString "c"), .str (Str.ofString "d")], .tuple [.str (Str.ofString "b"), .str (Str.ofString "c"), .str (Str.ofString "zz")], .tuple [.str (Str.ofString "p"), .str (Str.ofString "twelve")], .tuple [.str (Str.ofString "a"), .str (Str.ofString "b"), .str (Str.ofString "c"), .str (Str.ofString "d"), .str (Str.ofString "ff")]]
def callOk : PyData → Bool
  | .tuple cs => decide (cs.length ≤ 5) && wf 6 (.tuple cs) && decide ((PyData.tuple cs).depth ≤ 4)
  | _ => false
theorem calls_ok : ∀ d ∈ callsL, callOk d = true := by decide +kernel
def uvz : List Str := [Str.ofString "u", Str.ofString "v", Str.ofString "w", Str.ofString "x", Str.ofString "y", Str.ofString "z"]
theorem uvz_ok : (∀ z ∈ uvz, nameS z = true ∧ wf 5 (.str z) = true) ∧ ascS uvz = true := by decide +kernel
def InI (c g : PyData) (k : Nat) (S : Sd) : Prop := ∃ (x3 x7 : SV) (th : PyData), S = [.dat potD, .dat c, .dat g, x3, .un, .un, .dat th, x7, .un] ∧ nice (6 + k) 4 th
def OutI (c g : PyData) (_ : Nat) (S : Sd) : Prop := ∃ (x3 x6 x7 : SV), S = [.dat potD, .dat c, .dat g, x3, .un, .un, x6, x7, .un]
theorem right {ps : Pt} (hp : POk ps) : ∃ p' : Pt, f__law_right [potD] ps = some (.bool true, p') := by
  -- the calls
  obtain ⟨c, hc, p1, ok1, e1⟩ := pick_at (S0 := [.dat potD, .un, .un, .un, .un, .un, .un, .un, .un]) (ps := ps) (g := (eLst (aCons (eTup aNil) (aCons (eTup (aCons (eC (.str (Str.ofString "c"))) aNil)) (aCons (eTup (aCons (eC (.str (Str.ofString "c"))) (aCons (eC (.str (Str.ofString "d"))) aNil))) (aCons (eTup (aCons (eC (.str (Str.ofString "b"))) (aCons (eC (.str (Str.ofString "c"))) (aCons (eC (.str (Str.ofString "zz"))) aNil)))) (aCons (eTup (aCons (eC (.str (Str.ofString "p"))) (aCons (eC (.str (Str.ofString "twelve"))) aNil))) (aCons (eTup (aCons (eC (.str (Str.ofString "a"))) (aCons (eC (.str (Str.ofString "b"))) (aCons (eC (.str (Str.ofString "c"))) (aCons (eC (.str (Str.ofString "d"))) (aCons (eC (.str (Str.ofString "ff"))) aNil)))))) aNil)))))))) (ds := callsL) rfl rfl (.inl rfl) hp (by decide) (by decide)
  have hco := calls_ok c hc
  obtain ⟨cs, rfl⟩ : ∃ cs, c = .tuple cs := by
    cases c with
    | tuple cs => exact ⟨cs, rfl⟩
    | _ => cases hco
  simp only [callOk, Bool.and_eq_true, decide_eq_true_eq] at hco
  obtain ⟨⟨cl, cw⟩, cd⟩ := hco
  have s1 : ∀ b : SG, sSeq (sSet 1 (eCall f__law_pick (aCons (eVar 0) (aCons (eLst (aCons (eTup aNil) (aCons (eTup (aCons (eC (.str (Str.ofString "c"))) aNil)) (aCons (eTup (aCons (eC (.str (Str.ofString "c"))) (aCons (eC (.str (Str.ofString "d"))) aNil))) (aCons (eTup (aCons (eC (.str (Str.ofString "b"))) (aCons (eC (.str (Str.ofString "c"))) (aCons (eC (.str (Str.ofString "zz"))) aNil)))) (aCons (eTup (aCons (eC (.str (Str.ofString "p"))) (aCons (eC (.str (Str.ofString "twelve"))) aNil))) (aCons (eTup (aCons (eC (.str (Str.ofString "a"))) (aCons (eC (.str (Str.ofString "b"))) (aCons (eC (.str (Str.ofString "c"))) (aCons (eC (.str (Str.ofString "d"))) (aCons (eC (.str (Str.ofString "ff"))) aNil)))))) aNil))))))) aNil)))) b [.dat potD, .un, .un, .un, .un, .un, .un, .un, .un] ps = b [.dat potD, .dat (.tuple cs), .un, .un, .un, .un, .un, .un, .un] p1 := fun b => sSeq_nx (sSet_at e1)
  -- the good one
  obtain ⟨p2, pa, ha, si, be, ok2, e2, gc, gn⟩ := context_ok (cs := cs) ok1 cl
  generalize hgd : PyData.tuple [.tuple pa, .tuple ha, .tuple si, .int be] = gd at e2 gc gn
  have s2 : ∀ b : SG, sSeq (sSet 2 (eCall f__law_context (aCons (eVar 0) (aCons (eVar 1) aNil)))) b [.dat potD, .dat (.tuple cs), .un, .un, .un, .un, .un, .un, .un] p1 = b [.dat potD, .dat (.tuple cs), .dat gd, .un, .un, .un, .un, .un, .un] p2 := fun b => sSeq_nx (sSet_at (eCall_at (aCons_two (g1 := eVar 0) (g2 := eVar 1) rfl rfl) e2))
  have gt := told_right (w := 6) (cs := cs) (d := gd) p2 (by decide) cw cd gn.1 (Nat.le_trans gn.2 (by decide))
  have gi := law_is_context (w := 6) (d := gd) cs p2 gn.1 (by decide)
  rw [gc] at gi
  have s3 : ∀ b : SG, sSeq (sIf (bOr (bNot (asB (eCall f__law_told_right (aCons (eVar 1) (aCons (eVar 2) aNil))))) (bNot (asB (eCall f__law_is_context (aCons (eVar 1) (aCons (eVar 2) aNil)))))) (sRet (eC (.bool false))) sNil) b [.dat potD, .dat (.tuple cs), .dat gd, .un, .un, .un, .un, .un, .un] p2 = b [.dat potD, .dat (.tuple cs), .dat gd, .un, .un, .un, .un, .un, .un] p2 := fun b => sSeq_nx (by
    rw [sIf_at (bOr_at (bNot_at (asB_at (eCall_at (aCons_two (g1 := eVar 1) (g2 := eVar 2) rfl rfl) gt))) (fun _ => bNot_at (asB_at (eCall_at (aCons_two (g1 := eVar 1) (g2 := eVar 2) rfl rfl) gi))) (fun z => by cases z))]
    rfl)
  -- the turns
  obtain ⟨S4, p4, e4, ⟨x3, x6, x7, rfl⟩, ok4⟩ := for_inv (t := tName 3) (body := (sSeq (sSet 6 (eVar 2)) (sSeq (sFor (iRange (aCons (eOp addD (eC (.int 1)) (eCall f__law_draw (aCons (eVar 0) (aCons (eC (.int 2)) aNil)))) aNil)) (tName 7) (sSet 6 (eCall f__law_spoilt (aCons (eVar 0) (aCons (eVar 6) aNil))))) (sIf (bNot (asB (eCall f__law_told_right (aCons (eVar 1) (aCons (eVar 6) aNil))))) (sRet (eC (.bool false))) sNil)))) (I := OutI (.tuple cs) gd) (rangeD 12) 0 (fun x _ j S p _ hI hp => by
    obtain ⟨x3, x6, x7, rfl⟩ := hI
    obtain ⟨u, eu, u0, u1, okd⟩ := draw_ok (m := 2) hp (by decide) (by decide)
    obtain ⟨k, rfl⟩ : ∃ k : Nat, u = (k : Int) := ⟨u.toNat, by omega⟩
    generalize drawS 2 p = q at eu okd
    have er : iRange (aCons (eOp addD (eC (.int 1)) (eCall f__law_draw (aCons (eVar 0) (aCons (eC (.int 2)) aNil)))) aNil) [.dat potD, .dat (.tuple cs), .dat gd, .dat x, .un, .un, .dat gd, x7, .un] p = some (rangeD (1 + k), q) := by
      unfold iRange
      rw [aCons_one (eOp_at (g := eC (.int 1)) rfl (eCall_at (aCons_two (g1 := eVar 0) (g2 := eC (.int 2)) rfl rfl) eu) (add_ii 1 k))]
      dsimp only
      rw [if_pos (by rw [Bool.and_eq_true]; exact ⟨decide_eq_true (by omega), decide_eq_true (by omega)⟩), show ((1 : Int) + (k : Int)).toNat = 1 + k by omega]
    have rl : (rangeD (1 + k)).length = 1 + k := by unfold rangeD; rw [List.length_map, List.length_range]
    obtain ⟨S5, p5, e5, ⟨y3, y7, th, rfl, nth⟩, ok5⟩ := for_inv (t := tName 7) (body := sSet 6 (eCall f__law_spoilt (aCons (eVar 0) (aCons (eVar 6) aNil)))) (I := InI (.tuple cs) gd) (rangeD (1 + k)) 0 (fun z _ j S p hj hI hp => by
      obtain ⟨x3, x7, th, rfl, nt⟩ := hI
      obtain ⟨e, p', ok', ne, ee⟩ := thing_ok (w := 6 + j) (by omega) (by omega) hp nt
      exact ⟨[.dat potD, .dat (.tuple cs), .dat gd, x3, .un, .un, .dat th, .dat z, .un], _, p', rfl, sSet_at (eCall_at (aCons_two (g1 := eVar 0) (g2 := eVar 6) rfl rfl) ee), ⟨x3, .dat z, e, rfl, ne⟩, ok'⟩) [.dat potD, .dat (.tuple cs), .dat gd, .dat x, .un, .un, .dat gd, x7, .un] q ⟨.dat x, x7, gd, rfl, nice_up gn (Nat.le_refl _) (by decide)⟩ okd
    rw [rl] at nth
    have tt := told_right (w := 12) (cs := cs) (d := th) p5 (by decide) (wf_mono (by decide) _ cw) cd (wf_mono (by omega) _ nth.1) nth.2
    refine ⟨[.dat potD, .dat (.tuple cs), .dat gd, .dat x, .un, .un, x6, x7, .un], [.dat potD, .dat (.tuple cs), .dat gd, y3, .un, .un, .dat th, y7, .un], p5, rfl, ?_, ⟨y3, .dat th, y7, rfl⟩, ok5⟩
    rw [sSeq_nx (S1 := [.dat potD, .dat (.tuple cs), .dat gd, .dat x, .un, .un, .dat gd, x7, .un]) (p := p) (sSet_at (g := eVar 2) rfl), sSeq_nx (S1 := [.dat potD, .dat (.tuple cs), .dat gd, y3, .un, .un, .dat th, y7, .un]) (p := p5) (by rw [sFor, er, bindP_some]; exact e5), sIf_at (bNot_at (asB_at (eCall_at (aCons_two (g1 := eVar 1) (g2 := eVar 6) rfl rfl) tt)))]
    rfl) [.dat potD, .dat (.tuple cs), .dat gd, .un, .un, .un, .un, .un, .un] p2 ⟨.un, .un, .un, rfl⟩ ok2
  have s4 : ∀ b : SG, sSeq (sFor (iRange (aCons (eC (.int 12)) aNil)) (tName 3) (sSeq (sSet 6 (eVar 2)) (sSeq (sFor (iRange (aCons (eOp addD (eC (.int 1)) (eCall f__law_draw (aCons (eVar 0) (aCons (eC (.int 2)) aNil)))) aNil)) (tName 7) (sSet 6 (eCall f__law_spoilt (aCons (eVar 0) (aCons (eVar 6) aNil))))) (sIf (bNot (asB (eCall f__law_told_right (aCons (eVar 1) (aCons (eVar 6) aNil))))) (sRet (eC (.bool false))) sNil)))) b [.dat potD, .dat (.tuple cs), .dat gd, .un, .un, .un, .un, .un, .un] p2 = b [.dat potD, .dat (.tuple cs), .dat gd, x3, .un, .un, x6, x7, .un] p4 := fun b => sSeq_nx e4
  -- the names
  obtain ⟨u, eu, u0, u1, ok5⟩ := draw_ok (m := 2) ok4 (by decide) (by decide)
  obtain ⟨k, rfl⟩ : ∃ k : Nat, u = (k : Int) := ⟨u.toNat, by omega⟩
  generalize drawS 2 p4 = p5 at eu ok5
  have a1 : eOp addD (eC (.int 5)) (eCall f__law_draw (aCons (eVar 0) (aCons (eC (.int 2)) aNil))) [.dat potD, .dat (.tuple cs), .dat gd, x3, .un, .un, x6, x7, .un] p4 = some (.int ((5 + k : Nat) : Int), p5) := eOp_at (g := eC (.int 5)) rfl (eCall_at (aCons_two (g1 := eVar 0) (g2 := eC (.int 2)) rfl rfl) eu) (by rw [add_ii]; congr 2)
  have a2 := sl_lst (S0 := [.dat potD, .dat (.tuple cs), .dat gd, x3, .un, .un, x6, x7, .un]) (ps := p4) (q := p5) (g := (eLst (aCons (eC (.str (Str.ofString "u"))) (aCons (eC (.str (Str.ofString "v"))) (aCons (eC (.str (Str.ofString "w"))) (aCons (eC (.str (Str.ofString "x"))) (aCons (eC (.str (Str.ofString "y"))) (aCons (eC (.str (Str.ofString "z"))) aNil)))))))) (ds := uvz.map .str) (k := 5 + k) rfl a1
  rw [← List.map_take] at a2
  have hfs : (uvz.take (5 + k)).Sublist uvz := List.take_sublist _ _
  have hfl : (uvz.take (5 + k)).length ≤ 6 := hfs.length_le
  generalize uvz.take (5 + k) = fs at a2 hfs hfl
  have s5 : ∀ b : SG, sSeq (sSet 4 (eSl (eLst (aCons (eC (.str (Str.ofString "u"))) (aCons (eC (.str (Str.ofString "v"))) (aCons (eC (.str (Str.ofString "w"))) (aCons (eC (.str (Str.ofString "x"))) (aCons (eC (.str (Str.ofString "y"))) (aCons (eC (.str (Str.ofString "z"))) aNil))))))) oNone (oSome (eOp addD (eC (.int 5)) (eCall f__law_draw (aCons (eVar 0) (aCons (eC (.int 2)) aNil))))))) b [.dat potD, .dat (.tuple cs), .dat gd, x3, .un, .un, x6, x7, .un] p4 = b [.dat potD, .dat (.tuple cs), .dat gd, x3, .dat (.list (fs.map .str)), .un, x6, x7, .un] p5 := fun b => sSeq_nx (sSet_at a2)
  -- many
  obtain ⟨my, p6, ok6, r6, e6⟩ := lc_rel (e := PyData.str) (R := RN) (it := iOf (eVar 4)) (t := tName 8) (elt := (eTup (aCons (eVar 8) (aCons (eOp addD (eC (.int 1)) (eCall f__law_draw (aCons (eVar 0) (aCons (eC (.int 3)) aNil)))) aNil)))) (vs := [8]) (S0 := [.dat potD, .dat (.tuple cs), .dat gd, x3, .dat (.list (fs.map .str)), .un, x6, x7, .un]) (ps := p5) (xs := fs) rfl ok5 (by omega) fun z hz p hp => by
    obtain ⟨v, ev, v0, v1, okv⟩ := draw_ok (m := 3) hp (by decide) (by decide)
    refine ⟨.tuple [.str z, .int (1 + v)], _, okv, ⟨1 + v, rfl, by omega, log2_le (k := 100) (by omega) (by decide)⟩, lcS_dr (S1 := [.dat potD, .dat (.tuple cs), .dat gd, x3, .dat (.list (fs.map .str)), .un, x6, x7, .dat (.str z)]) rfl ?_⟩
    unfold eTup
    rw [aCons_two (g1 := eVar 8) rfl (eOp_at (g := eC (.int 1)) rfl (eCall_at (aCons_two (g1 := eVar 0) (g2 := eC (.int 3)) rfl rfl) ev) (add_ii 1 v))]
    rfl
  have s6 : ∀ b : SG, sSeq (sSet 5 (eCB (one tupleD) (aCons (eLc (iOf (eVar 4)) (tName 8) bYes (eTup (aCons (eVar 8) (aCons (eOp addD (eC (.int 1)) (eCall f__law_draw (aCons (eVar 0) (aCons (eC (.int 3)) aNil)))) aNil))) [8]) aNil))) b [.dat potD, .dat (.tuple cs), .dat gd, x3, .dat (.list (fs.map .str)), .un, x6, x7, .un] p5 = b [.dat potD, .dat (.tuple cs), .dat gd, x3, .dat (.list (fs.map .str)), .dat (.tuple my), x6, x7, .un] p6 := fun b => sSeq_nx (sSet_at (eCB_at (o := one tupleD) (aCons_one e6) (show one tupleD [.list my] = some (.tuple my) from rfl)))
  obtain ⟨_, lm, nm⟩ := pairs_of r6 hfs uvz_ok
  subst hgd
  obtain ⟨_, gm⟩ := nice_mem (k := 2) gn
  have nl : nice 6 4 (.tuple [.tuple pa, .tuple my, .tuple si, .int be]) := nice_tup (k := 3) (fun x hx => by
    simp only [List.mem_cons, List.not_mem_nil, or_false] at hx
    rcases hx with rfl | rfl | rfl | rfl
    · exact nice_up (gm (.tuple pa) (by simp)) (Nat.le_refl _) (by decide)
    · exact nice_up (nice_tup nm (by omega)) (Nat.le_refl _) (by decide)
    · exact nice_up (gm (.tuple si) (by simp)) (Nat.le_refl _) (by decide)
    · exact nice_up (gm (.int be) (by simp)) (Nat.le_refl _) (by decide)) (by simp)
  have tl := told_right (w := 6) (cs := cs) p6 (by decide) cw cd nl.1 nl.2
  refine ⟨p6, run_rt ?_⟩
  show g__law_right [.dat potD, .un, .un, .un, .un, .un, .un, .un, .un] ps = _
  unfold g__law_right
  rw [s1, s2, s3, s4, s5, s6]
  exact sRet_at (eCall_at (aCons_two (g1 := eVar 1) rfl (g2 := (eTup (aCons (eOp ixD (eVar 2) (eC (.int 0))) (aCons (eVar 5) (aCons (eOp ixD (eVar 2) (eC (.int 2))) (aCons (eOp ixD (eVar 2) (eC (.int 3))) aNil)))))) (y := .tuple [.tuple pa, .tuple my, .tuple si, .int be]) (p2 := p6) rfl) tl)
theorem potFree_ints : ∀ ns : List Int, potFreeL (ns.map PyData.int) = true
  | [] => by simp [potFreeL]
  | n :: ns => by simp [potFreeL, potFree, potFree_ints ns]
theorem lc_true {it : AG} {t : Tgt} {elt : EG} {vs : List Nat} {S0 : Sd} {ps : Pt} {xs : List PyData} (hi : it S0 ps = some (xs, ps)) (hl : xs.length ≤ 1000) (h : ∀ x ∈ xs, lcStep t bYes elt (wipeD S0 vs) x ps = some (some (.bool true), ps)) : eLc it t bYes elt vs S0 ps = some (.list (xs.map fun _ => .bool true), ps) := by
  unfold eLc
  rw [hi, bindP_some, if_pos (fits_of hl)]
  have key : ∀ (us acc : List PyData), (∀ u ∈ us, u ∈ xs) → lcGo (lcStep t bYes elt (wipeD S0 vs)) us ps acc = some (acc ++ us.map fun _ => .bool true, ps) := by
    intro us
    induction us with
    | nil => intro acc _; simp [lcGo]
    | cons u r ih =>
      intro acc hu
      unfold lcGo
      rw [h u (hu u List.mem_cons_self), bindP_some]
      show lcGo _ _ ps (acc ++ [.bool true]) = _
      rw [ih _ fun z hz => hu z (List.mem_cons_of_mem _ hz), List.append_assoc]
      rfl
  rw [key xs [] fun u hu => hu]
  rfl
theorem hlaw (ns : List Int) (_ : ns.length ≤ 63) (_ : ∀ z ∈ ns, Builtin.Int.intBits z ≤ 1048576) : ∃ ps, f_law [.list (ns.map .int)] (0, 0) = some (.bool true, ps) := by
  refine ⟨(0, 0), ?_⟩
  have hj : ∃ j : Int, 1 ≤ j ∧ j ≤ 4 ∧ (eCB max2 (aCons (eC (.int 1)) (aCons (eCB min2 (aCons (eCB (one lenD) (aCons (eVar 0) aNil)) (aCons (eC (.int 4)) aNil))) aNil))) [.dat (.list (ns.map .int)), .un] (0, 0) = some (.int j, (0, 0)) := by
    refine ⟨if (if 4 < (ns.length : Int) then 4 else (ns.length : Int)) > 1 then (if 4 < (ns.length : Int) then 4 else (ns.length : Int)) else 1, by split <;> split <;> omega, by split <;> split <;> omega, ?_⟩
    simp [eCB, aCons, aNil, eC, eVar, bindP, one, lenD, min2, max2]
  obtain ⟨j, j0, j1, ej⟩ := hj
  have hr : iRange (aCons (eCB max2 (aCons (eC (.int 1)) (aCons (eCB min2 (aCons (eCB (one lenD) (aCons (eVar 0) aNil)) (aCons (eC (.int 4)) aNil))) aNil))) aNil) [.dat (.list (ns.map .int)), .un] (0, 0) = some (rangeD j.toNat, (0, 0)) := by
    unfold iRange
    rw [aCons_one ej]
    dsimp only
    rw [if_pos (by rw [Bool.and_eq_true]; exact ⟨decide_eq_true (by omega), decide_eq_true (by omega)⟩)]
  have rl : (rangeD j.toNat).length = j.toNat := by unfold rangeD; rw [List.length_map, List.length_range]
  have e := lc_true (it := iRange (aCons (eCB max2 (aCons (eC (.int 1)) (aCons (eCB min2 (aCons (eCB (one lenD) (aCons (eVar 0) aNil)) (aCons (eC (.int 4)) aNil))) aNil))) aNil)) (t := tName 1) (elt := eCallPot f__law_right f__law_pot (aCons (eVar 0) (aCons (eVar 1) aNil))) (vs := [1]) (S0 := [.dat (.list (ns.map .int)), .un]) (ps := (0, 0)) (xs := rangeD j.toNat) hr (by omega) fun x hx => by
    unfold rangeD at hx
    obtain ⟨i, hi, rfl⟩ := List.mem_map.mp hx
    have hi2 := List.mem_range.mp hi
    obtain ⟨a, b, e1, ok⟩ := pot_ok ns i (0, 0) (by omega)
    obtain ⟨p', e2⟩ := right ok
    refine lcS_dr (S1 := [.dat (.list (ns.map .int)), .dat (.int i)]) rfl ?_
    unfold eCallPot
    rw [aCons_two (g1 := eVar 0) (g2 := eVar 1) (x := .list (ns.map .int)) (y := .int i) (p1 := (0, 0)) (p2 := (0, 0)) rfl rfl, bindP_some, e1]
    dsimp only
    rw [e2]
    rfl
  apply run_rt
  show g_law [.dat (.list (ns.map .int)), .un] (0, 0) = _
  unfold g_law
  refine sRet_at (eCB_at (aCons_one e) ?_)
  have ha : ∀ us : List PyData, us.length ≤ 1000 → one allD [.list (us.map fun _ => .bool true)] = some (.bool true) := fun us _ => by rw [allD_bools (fun _ => true) us, List.all_eq_true.mpr (fun _ _ => rfl)]
  exact ha _ (by omega)
end K71

set_option Elab.async false
set_option linter.all false
set_option maxRecDepth 100000
namespace K71
open PySem L2 DL
end K71
namespace K71
open PySem L2 DL
def noListB (K : PySem.W.Frag) : Bool := K.all fun p => match p.2.cls with
  | .type n => n != "list"
  | _ => true
theorem lookup_mem {a : Addr} {o : Obj} : ∀ {K : List (Addr × Obj)}, K.lookup a = some o → (a, o) ∈ K
  | [], e => by cases e
  | (b, u) :: r, e => by
    rw [List.lookup_cons] at e
    split at e
    · next h =>
      have hb : a = b := beq_iff_eq.mp h
      cases e
      subst hb
      exact List.mem_cons_self
    · exact List.mem_cons_of_mem _ (lookup_mem e)
theorem noList_of {K : PySem.W.Frag} (h : noListB K = true) (a : Addr) (o : Obj) (e : K.lookup a = some o) : o.cls ≠ .type "list" := fun z => by
  unfold noListB at h
  rw [List.all_eq_true] at h
  have h1 := h (a, o) (lookup_mem e)
  simp only [z] at h1
  exact absurd h1 (by decide)
theorem all_mk {l : PySem.W.OpenLaw} {w : World} {K : PySem.W.Frag} {h : Heap} {mg : Str → Option Value} {fa : Addr} {ts : List Addr} (X : K.In h) (G : h.Ns mainGlobals mg) (hfa : mg "law" = some (.ref fa)) (htab : ∀ P ∈ ts, h.get? P = some { cls := .none, data := .fields #[] }) (noL : noListB K = true)
    (hlaw : ∀ ns : List Int, ns.length ≤ 63 → (∀ z ∈ ns, Builtin.Int.intBits z ≤ 1048576) → ∃ ps, f_law [.list (ns.map .int)] (0, 0) = some (.bool true, ps))
    {f0 : Addr} {od0 an0 : Option Addr} {sl0 : Array (Option Value)} {oc0 kV0 dc0 pm0 cd0 ct0 : Value} {f1 : Addr} {od1 an1 : Option Addr} {sl1 : Array (Option Value)} {oc1 kV1 dc1 pm1 cd1 ct1 : Value} {f2 : Addr} {od2 an2 : Option Addr} {sl2 : Array (Option Value)} {oc2 kV2 dc2 pm2 cd2 ct2 : Value} {f3 : Addr} {od3 an3 : Option Addr} {sl3 : Array (Option Value)} {oc3 kV3 dc3 pm3 cd3 ct3 : Value} {f4 : Addr} {od4 an4 : Option Addr} {sl4 : Array (Option Value)} {oc4 kV4 dc4 pm4 cd4 ct4 : Value} {f5 : Addr} {od5 an5 : Option Addr} {sl5 : Array (Option Value)} {oc5 kV5 dc5 pm5 cd5 ct5 : Value} {f6 : Addr} {od6 an6 : Option Addr} {sl6 : Array (Option Value)} {oc6 kV6 dc6 pm6 cd6 ct6 : Value} {f7 : Addr} {od7 an7 : Option Addr} {sl7 : Array (Option Value)} {oc7 kV7 dc7 pm7 cd7 ct7 : Value} {f8 : Addr} {od8 an8 : Option Addr} {sl8 : Array (Option Value)} {oc8 kV8 dc8 pm8 cd8 ct8 : Value} {f9 : Addr} {od9 an9 : Option Addr} {sl9 : Array (Option Value)} {oc9 kV9 dc9 pm9 cd9 ct9 : Value} {f10 : Addr} {od10 an10 : Option Addr} {sl10 : Array (Option Value)} {oc10 kV10 dc10 pm10 cd10 ct10 : Value} {f11 : Addr} {od11 an11 : Option Addr} {sl11 : Array (Option Value)} {oc11 kV11 dc11 pm11 cd11 ct11 : Value} {f12 : Addr} {od12 an12 : Option Addr} {sl12 : Array (Option Value)} {oc12 kV12 dc12 pm12 cd12 ct12 : Value} {f13 : Addr} {od13 an13 : Option Addr} {sl13 : Array (Option Value)} {oc13 kV13 dc13 pm13 cd13 ct13 : Value} {f14 : Addr} {od14 an14 : Option Addr} {sl14 : Array (Option Value)} {oc14 kV14 dc14 pm14 cd14 ct14 : Value} {f15 : Addr} {od15 an15 : Option Addr} {sl15 : Array (Option Value)} {oc15 kV15 dc15 pm15 cd15 ct15 : Value} {f16 : Addr} {od16 an16 : Option Addr} {sl16 : Array (Option Value)} {oc16 kV16 dc16 pm16 cd16 ct16 : Value} {f17 : Addr} {od17 an17 : Option Addr} {sl17 : Array (Option Value)} {oc17 kV17 dc17 pm17 cd17 ct17 : Value} {f18 : Addr} {od18 an18 : Option Addr} {sl18 : Array (Option Value)} {oc18 kV18 dc18 pm18 cd18 ct18 : Value} {f19 : Addr} {od19 an19 : Option Addr} {sl19 : Array (Option Value)} {oc19 kV19 dc19 pm19 cd19 ct19 : Value} {f20 : Addr} {od20 an20 : Option Addr} {sl20 : Array (Option Value)} {oc20 kV20 dc20 pm20 cd20 ct20 : Value} {f21 : Addr} {od21 an21 : Option Addr} {sl21 : Array (Option Value)} {oc21 kV21 dc21 pm21 cd21 ct21 : Value} {f22 : Addr} {od22 an22 : Option Addr} {sl22 : Array (Option Value)} {oc22 kV22 dc22 pm22 cd22 ct22 : Value} {yt_LETTERS : Tok} {yt_MOST_HANDLERS : Tok} {yt_MOST_LETTERS : Tok} {ya_RESERVED : Addr} {yd_RESERVED : Option Addr} {yi_RESERVED : Array Value} {yn_RESERVED : Nat} {yw_RESERVED : Array (Option Value)}
    (a0 : PySem.W.nsIn K mainGlobals "is_integer" = some (some (.ref f0))) (l0 : K.lookup f0 = some ⟨oc0, od0, .func (PySem.W.fnOf "is_integer" "is_integer" (defArgs s_is_integer) (defBody s_is_integer) (defScope s_is_integer) .none kV0 dc0 pm0 an0 cd0 ct0), sl0⟩) (c0d : PySem.W.codeIn K cd0 "is_integer" = true) (k0 : PySem.W.keepIn K (.ref f0) = true)
    (a1 : PySem.W.nsIn K mainGlobals "is_name" = some (some (.ref f1))) (l1 : K.lookup f1 = some ⟨oc1, od1, .func (PySem.W.fnOf "is_name" "is_name" (defArgs s_is_name) (defBody s_is_name) (defScope s_is_name) .none kV1 dc1 pm1 an1 cd1 ct1), sl1⟩) (c1d : PySem.W.codeIn K cd1 "is_name" = true) (k1 : PySem.W.keepIn K (.ref f1) = true)
    (a2 : PySem.W.nsIn K mainGlobals "is_ascending" = some (some (.ref f2))) (l2 : K.lookup f2 = some ⟨oc2, od2, .func (PySem.W.fnOf "is_ascending" "is_ascending" (defArgs s_is_ascending) (defBody s_is_ascending) (defScope s_is_ascending) .none kV2 dc2 pm2 an2 cd2 ct2), sl2⟩) (c2d : PySem.W.codeIn K cd2 "is_ascending" = true) (k2 : PySem.W.keepIn K (.ref f2) = true)
    (a3 : PySem.W.nsIn K mainGlobals "is_passed" = some (some (.ref f3))) (l3 : K.lookup f3 = some ⟨oc3, od3, .func (PySem.W.fnOf "is_passed" "is_passed" (defArgs s_is_passed) (defBody s_is_passed) (defScope s_is_passed) .none kV3 dc3 pm3 an3 cd3 ct3), sl3⟩) (c3d : PySem.W.codeIn K cd3 "is_passed" = true) (k3 : PySem.W.keepIn K (.ref f3) = true)
    (a4 : PySem.W.nsIn K mainGlobals "are_pairs" = some (some (.ref f4))) (l4 : K.lookup f4 = some ⟨oc4, od4, .func (PySem.W.fnOf "are_pairs" "are_pairs" (defArgs s_are_pairs) (defBody s_are_pairs) (defScope s_are_pairs) .none kV4 dc4 pm4 an4 cd4 ct4), sl4⟩) (c4d : PySem.W.codeIn K cd4 "are_pairs" = true) (k4 : PySem.W.keepIn K (.ref f4) = true)
    (a5 : PySem.W.nsIn K mainGlobals "is_context" = some (some (.ref f5))) (l5 : K.lookup f5 = some ⟨oc5, od5, .func (PySem.W.fnOf "is_context" "is_context" (defArgs s_is_context) (defBody s_is_context) (defScope s_is_context) .none kV5 dc5 pm5 an5 cd5 ct5), sl5⟩) (c5d : PySem.W.codeIn K cd5 "is_context" = true) (k5 : PySem.W.keepIn K (.ref f5) = true)
    (a6 : PySem.W.nsIn K mainGlobals "_law_pot" = some (some (.ref f6))) (l6 : K.lookup f6 = some ⟨oc6, od6, .func (PySem.W.fnOf "_law_pot" "_law_pot" (defArgs s__law_pot) (defBody s__law_pot) (defScope s__law_pot) .none kV6 dc6 pm6 an6 cd6 ct6), sl6⟩) (c6d : PySem.W.codeIn K cd6 "_law_pot" = true) (k6 : PySem.W.keepIn K (.ref f6) = true)
    (a7 : PySem.W.nsIn K mainGlobals "_law_draw" = some (some (.ref f7))) (l7 : K.lookup f7 = some ⟨oc7, od7, .func (PySem.W.fnOf "_law_draw" "_law_draw" (defArgs s__law_draw) (defBody s__law_draw) (defScope s__law_draw) .none kV7 dc7 pm7 an7 cd7 ct7), sl7⟩) (c7d : PySem.W.codeIn K cd7 "_law_draw" = true) (k7 : PySem.W.keepIn K (.ref f7) = true)
    (a8 : PySem.W.nsIn K mainGlobals "_law_pick" = some (some (.ref f8))) (l8 : K.lookup f8 = some ⟨oc8, od8, .func (PySem.W.fnOf "_law_pick" "_law_pick" (defArgs s__law_pick) (defBody s__law_pick) (defScope s__law_pick) .none kV8 dc8 pm8 an8 cd8 ct8), sl8⟩) (c8d : PySem.W.codeIn K cd8 "_law_pick" = true) (k8 : PySem.W.keepIn K (.ref f8) = true)
    (a9 : PySem.W.nsIn K mainGlobals "_law_words" = some (some (.ref f9))) (l9 : K.lookup f9 = some ⟨oc9, od9, .func (PySem.W.fnOf "_law_words" "_law_words" (defArgs s__law_words) (defBody s__law_words) (defScope s__law_words) .none kV9 dc9 pm9 an9 cd9 ct9), sl9⟩) (c9d : PySem.W.codeIn K cd9 "_law_words" = true) (k9 : PySem.W.keepIn K (.ref f9) = true)
    (a10 : PySem.W.nsIn K mainGlobals "_law_context" = some (some (.ref f10))) (l10 : K.lookup f10 = some ⟨oc10, od10, .func (PySem.W.fnOf "_law_context" "_law_context" (defArgs s__law_context) (defBody s__law_context) (defScope s__law_context) .none kV10 dc10 pm10 an10 cd10 ct10), sl10⟩) (c10d : PySem.W.codeIn K cd10 "_law_context" = true) (k10 : PySem.W.keepIn K (.ref f10) = true)
    (a11 : PySem.W.nsIn K mainGlobals "_law_whole" = some (some (.ref f11))) (l11 : K.lookup f11 = some ⟨oc11, od11, .func (PySem.W.fnOf "_law_whole" "_law_whole" (defArgs s__law_whole) (defBody s__law_whole) (defScope s__law_whole) .none kV11 dc11 pm11 an11 cd11 ct11), sl11⟩) (c11d : PySem.W.codeIn K cd11 "_law_whole" = true) (k11 : PySem.W.keepIn K (.ref f11) = true)
    (a12 : PySem.W.nsIn K mainGlobals "_law_is_name" = some (some (.ref f12))) (l12 : K.lookup f12 = some ⟨oc12, od12, .func (PySem.W.fnOf "_law_is_name" "_law_is_name" (defArgs s__law_is_name) (defBody s__law_is_name) (defScope s__law_is_name) .none kV12 dc12 pm12 an12 cd12 ct12), sl12⟩) (c12d : PySem.W.codeIn K cd12 "_law_is_name" = true) (k12 : PySem.W.keepIn K (.ref f12) = true)
    (a13 : PySem.W.nsIn K mainGlobals "_law_is_pair" = some (some (.ref f13))) (l13 : K.lookup f13 = some ⟨oc13, od13, .func (PySem.W.fnOf "_law_is_pair" "_law_is_pair" (defArgs s__law_is_pair) (defBody s__law_is_pair) (defScope s__law_is_pair) .none kV13 dc13 pm13 an13 cd13 ct13), sl13⟩) (c13d : PySem.W.codeIn K cd13 "_law_is_pair" = true) (k13 : PySem.W.keepIn K (.ref f13) = true)
    (a14 : PySem.W.nsIn K mainGlobals "_law_are_pairs" = some (some (.ref f14))) (l14 : K.lookup f14 = some ⟨oc14, od14, .func (PySem.W.fnOf "_law_are_pairs" "_law_are_pairs" (defArgs s__law_are_pairs) (defBody s__law_are_pairs) (defScope s__law_are_pairs) .none kV14 dc14 pm14 an14 cd14 ct14), sl14⟩) (c14d : PySem.W.codeIn K cd14 "_law_are_pairs" = true) (k14 : PySem.W.keepIn K (.ref f14) = true)
    (a15 : PySem.W.nsIn K mainGlobals "_law_is_context" = some (some (.ref f15))) (l15 : K.lookup f15 = some ⟨oc15, od15, .func (PySem.W.fnOf "_law_is_context" "_law_is_context" (defArgs s__law_is_context) (defBody s__law_is_context) (defScope s__law_is_context) .none kV15 dc15 pm15 an15 cd15 ct15), sl15⟩) (c15d : PySem.W.codeIn K cd15 "_law_is_context" = true) (k15 : PySem.W.keepIn K (.ref f15) = true)
    (a16 : PySem.W.nsIn K mainGlobals "_law_exchanged" = some (some (.ref f16))) (l16 : K.lookup f16 = some ⟨oc16, od16, .func (PySem.W.fnOf "_law_exchanged" "_law_exchanged" (defArgs s__law_exchanged) (defBody s__law_exchanged) (defScope s__law_exchanged) .none kV16 dc16 pm16 an16 cd16 ct16), sl16⟩) (c16d : PySem.W.codeIn K cd16 "_law_exchanged" = true) (k16 : PySem.W.keepIn K (.ref f16) = true)
    (a17 : PySem.W.nsIn K mainGlobals "_law_spoilt_item" = some (some (.ref f17))) (l17 : K.lookup f17 = some ⟨oc17, od17, .func (PySem.W.fnOf "_law_spoilt_item" "_law_spoilt_item" (defArgs s__law_spoilt_item) (defBody s__law_spoilt_item) (defScope s__law_spoilt_item) .none kV17 dc17 pm17 an17 cd17 ct17), sl17⟩) (c17d : PySem.W.codeIn K cd17 "_law_spoilt_item" = true) (k17 : PySem.W.keepIn K (.ref f17) = true)
    (a18 : PySem.W.nsIn K mainGlobals "_law_spoilt_part" = some (some (.ref f18))) (l18 : K.lookup f18 = some ⟨oc18, od18, .func (PySem.W.fnOf "_law_spoilt_part" "_law_spoilt_part" (defArgs s__law_spoilt_part) (defBody s__law_spoilt_part) (defScope s__law_spoilt_part) .none kV18 dc18 pm18 an18 cd18 ct18), sl18⟩) (c18d : PySem.W.codeIn K cd18 "_law_spoilt_part" = true) (k18 : PySem.W.keepIn K (.ref f18) = true)
    (a19 : PySem.W.nsIn K mainGlobals "_law_spoilt" = some (some (.ref f19))) (l19 : K.lookup f19 = some ⟨oc19, od19, .func (PySem.W.fnOf "_law_spoilt" "_law_spoilt" (defArgs s__law_spoilt) (defBody s__law_spoilt) (defScope s__law_spoilt) .none kV19 dc19 pm19 an19 cd19 ct19), sl19⟩) (c19d : PySem.W.codeIn K cd19 "_law_spoilt" = true) (k19 : PySem.W.keepIn K (.ref f19) = true)
    (a20 : PySem.W.nsIn K mainGlobals "_law_told_right" = some (some (.ref f20))) (l20 : K.lookup f20 = some ⟨oc20, od20, .func (PySem.W.fnOf "_law_told_right" "_law_told_right" (defArgs s__law_told_right) (defBody s__law_told_right) (defScope s__law_told_right) .none kV20 dc20 pm20 an20 cd20 ct20), sl20⟩) (c20d : PySem.W.codeIn K cd20 "_law_told_right" = true) (k20 : PySem.W.keepIn K (.ref f20) = true)
    (a21 : PySem.W.nsIn K mainGlobals "_law_right" = some (some (.ref f21))) (l21 : K.lookup f21 = some ⟨oc21, od21, .func (PySem.W.fnOf "_law_right" "_law_right" (defArgs s__law_right) (defBody s__law_right) (defScope s__law_right) .none kV21 dc21 pm21 an21 cd21 ct21), sl21⟩) (c21d : PySem.W.codeIn K cd21 "_law_right" = true) (k21 : PySem.W.keepIn K (.ref f21) = true)
    (a22 : PySem.W.nsIn K mainGlobals "law" = some (some (.ref f22))) (l22 : K.lookup f22 = some ⟨oc22, od22, .func (PySem.W.fnOf "law" "law" (defArgs s_law) (defBody s_law) (defScope s_law) .none kV22 dc22 pm22 an22 cd22 ct22), sl22⟩) (c22d : PySem.W.codeIn K cd22 "law" = true) (k22 : PySem.W.keepIn K (.ref f22) = true)
    (y_LETTERS : PySem.W.nsIn K mainGlobals "LETTERS" = some (some (.str (Str.ofString "abcdefghijklmnopqrstuvwxyz") yt_LETTERS)))
    (y_MOST_HANDLERS : PySem.W.nsIn K mainGlobals "MOST_HANDLERS" = some (some (.int 5 yt_MOST_HANDLERS)))
    (y_MOST_LETTERS : PySem.W.nsIn K mainGlobals "MOST_LETTERS" = some (some (.int 8 yt_MOST_LETTERS)))
    (y_RESERVED : PySem.W.nsIn K mainGlobals "RESERVED" = some (some (.ref ya_RESERVED))) (yl_RESERVED : K.lookup ya_RESERVED = some ⟨.type "tuple", yd_RESERVED, .seq yi_RESERVED yn_RESERVED, yw_RESERVED⟩) (yz_RESERVED : yi_RESERVED.size ≤ 16777216) (ys_RESERVED : strVals yi_RESERVED.toList = some [Str.ofString "call", Str.ofString "do", Str.ofString "either", Str.ofString "else", Str.ofString "end", Str.ofString "endless", Str.ofString "form", Str.ofString "frame", Str.ofString "function", Str.ofString "handler", Str.ofString "house", Str.ofString "kind", Str.ofString "limit", Str.ofString "loop", Str.ofString "most", Str.ofString "now", Str.ofString "or", Str.ofString "returns", Str.ofString "room", Str.ofString "shut", Str.ofString "size", Str.ofString "stop", Str.ofString "take", Str.ofString "task", Str.ofString "times"])
    (z_abs : PySem.W.nsIn K mainGlobals "abs" = some none)
    (z_all : PySem.W.nsIn K mainGlobals "all" = some none)
    (z_bool : PySem.W.nsIn K mainGlobals "bool" = some none)
    (z_divmod : PySem.W.nsIn K mainGlobals "divmod" = some none)
    (z_int : PySem.W.nsIn K mainGlobals "int" = some none)
    (z_isinstance : PySem.W.nsIn K mainGlobals "isinstance" = some none)
    (z_len : PySem.W.nsIn K mainGlobals "len" = some none)
    (z_list : PySem.W.nsIn K mainGlobals "list" = some none)
    (z_max : PySem.W.nsIn K mainGlobals "max" = some none)
    (z_min : PySem.W.nsIn K mainGlobals "min" = some none)
    (z_range : PySem.W.nsIn K mainGlobals "range" = some none)
    (z_repr : PySem.W.nsIn K mainGlobals "repr" = some none)
    (z_set : PySem.W.nsIn K mainGlobals "set" = some none)
    (z_sorted : PySem.W.nsIn K mainGlobals "sorted" = some none)
    (z_str : PySem.W.nsIn K mainGlobals "str" = some none)
    (z_tuple : PySem.W.nsIn K mainGlobals "tuple" = some none)
    (z_zip : PySem.W.nsIn K mainGlobals "zip" = some none) :
    LawD l w K 7 63 (Str.ofString "_law_script") mg fa h := by
  have e := hfa.symm.trans (PySem.W.mg_of X G a22)
  cases e
  have F0 := fun_mk (st := s_is_integer) l0 c0d k0
  have b0 := F0.binds (ps := [Str.ofString "value", Str.ofString "least"]) fun _ _ _ _ _ _ us hl => match us, hl with | [_, _], _ => rfl
  have F1 := fun_mk (st := s_is_name) l1 c1d k1
  have b1 := F1.binds (ps := [Str.ofString "value"]) fun _ _ _ _ _ _ us hl => match us, hl with | [_], _ => rfl
  have F2 := fun_mk (st := s_is_ascending) l2 c2d k2
  have b2 := F2.binds (ps := [Str.ofString "keys"]) fun _ _ _ _ _ _ us hl => match us, hl with | [_], _ => rfl
  have F3 := fun_mk (st := s_is_passed) l3 c3d k3
  have b3 := F3.binds (ps := [Str.ofString "value", Str.ofString "many"]) fun _ _ _ _ _ _ us hl => match us, hl with | [_, _], _ => rfl
  have F4 := fun_mk (st := s_are_pairs) l4 c4d k4
  have b4 := F4.binds (ps := [Str.ofString "value"]) fun _ _ _ _ _ _ us hl => match us, hl with | [_], _ => rfl
  have F5 := fun_mk (st := s_is_context) l5 c5d k5
  have b5 := F5.binds (ps := [Str.ofString "callbacks", Str.ofString "value"]) fun _ _ _ _ _ _ us hl => match us, hl with | [_, _], _ => rfl
  have F6 := fun_mk (st := s__law_pot) l6 c6d k6
  have b6 := F6.binds (ps := [Str.ofString "_law_script", Str.ofString "_law_index"]) fun _ _ _ _ _ _ us hl => match us, hl with | [_, _], _ => rfl
  have F7 := fun_mk (st := s__law_draw) l7 c7d k7
  have b7 := F7.binds (ps := [Str.ofString "_law_pot_here", Str.ofString "_law_many"]) fun _ _ _ _ _ _ us hl => match us, hl with | [_, _], _ => rfl
  have F8 := fun_mk (st := s__law_pick) l8 c8d k8
  have b8 := F8.binds (ps := [Str.ofString "_law_pot_here", Str.ofString "_law_some"]) fun _ _ _ _ _ _ us hl => match us, hl with | [_, _], _ => rfl
  have F9 := fun_mk (st := s__law_words) l9 c9d k9
  have b9 := F9.binds (ps := []) fun _ _ _ _ _ _ us hl => match us, hl with | [], _ => rfl
  have F10 := fun_mk (st := s__law_context) l10 c10d k10
  have b10 := F10.binds (ps := [Str.ofString "_law_pot_here", Str.ofString "_law_calls"]) fun _ _ _ _ _ _ us hl => match us, hl with | [_, _], _ => rfl
  have F11 := fun_mk (st := s__law_whole) l11 c11d k11
  have b11 := F11.binds (ps := [Str.ofString "_law_thing", Str.ofString "_law_least"]) fun _ _ _ _ _ _ us hl => match us, hl with | [_, _], _ => rfl
  have F12 := fun_mk (st := s__law_is_name) l12 c12d k12
  have b12 := F12.binds (ps := [Str.ofString "_law_thing"]) fun _ _ _ _ _ _ us hl => match us, hl with | [_], _ => rfl
  have F13 := fun_mk (st := s__law_is_pair) l13 c13d k13
  have b13 := F13.binds (ps := [Str.ofString "_law_thing"]) fun _ _ _ _ _ _ us hl => match us, hl with | [_], _ => rfl
  have F14 := fun_mk (st := s__law_are_pairs) l14 c14d k14
  have b14 := F14.binds (ps := [Str.ofString "_law_thing"]) fun _ _ _ _ _ _ us hl => match us, hl with | [_], _ => rfl
  have F15 := fun_mk (st := s__law_is_context) l15 c15d k15
  have b15 := F15.binds (ps := [Str.ofString "_law_calls", Str.ofString "_law_thing"]) fun _ _ _ _ _ _ us hl => match us, hl with | [_, _], _ => rfl
  have F16 := fun_mk (st := s__law_exchanged) l16 c16d k16
  have b16 := F16.binds (ps := [Str.ofString "_law_part", Str.ofString "_law_at"]) fun _ _ _ _ _ _ us hl => match us, hl with | [_, _], _ => rfl
  have F17 := fun_mk (st := s__law_spoilt_item) l17 c17d k17
  have b17 := F17.binds (ps := [Str.ofString "_law_pot_here", Str.ofString "_law_item"]) fun _ _ _ _ _ _ us hl => match us, hl with | [_, _], _ => rfl
  have F18 := fun_mk (st := s__law_spoilt_part) l18 c18d k18
  have b18 := F18.binds (ps := [Str.ofString "_law_pot_here", Str.ofString "_law_part"]) fun _ _ _ _ _ _ us hl => match us, hl with | [_, _], _ => rfl
  have F19 := fun_mk (st := s__law_spoilt) l19 c19d k19
  have b19 := F19.binds (ps := [Str.ofString "_law_pot_here", Str.ofString "_law_thing"]) fun _ _ _ _ _ _ us hl => match us, hl with | [_, _], _ => rfl
  have F20 := fun_mk (st := s__law_told_right) l20 c20d k20
  have b20 := F20.binds (ps := [Str.ofString "_law_calls", Str.ofString "_law_thing"]) fun _ _ _ _ _ _ us hl => match us, hl with | [_, _], _ => rfl
  have F21 := fun_mk (st := s__law_right) l21 c21d k21
  have b21 := F21.binds (ps := [Str.ofString "_law_pot_here"]) fun _ _ _ _ _ _ us hl => match us, hl with | [_], _ => rfl
  have F22 := fun_mk (st := s_law) l22 c22d k22
  have b22 := F22.binds (ps := [Str.ofString "_law_script"]) fun _ _ _ _ _ _ us hl => match us, hl with | [_], _ => rfl
  letI : TBL := ⟨[]⟩
  let T : TX K mg := { a_is_integer := f0, fd_is_integer := _, F_is_integer := F0, b_is_integer := b0, g_is_integer := PySem.W.mg_of X G a0, a_is_name := f1, fd_is_name := _, F_is_name := F1, b_is_name := b1, g_is_name := PySem.W.mg_of X G a1, a_is_ascending := f2, fd_is_ascending := _, F_is_ascending := F2, b_is_ascending := b2, g_is_ascending := PySem.W.mg_of X G a2, a_is_passed := f3, fd_is_passed := _, F_is_passed := F3, b_is_passed := b3, g_is_passed := PySem.W.mg_of X G a3, a_are_pairs := f4, fd_are_pairs := _, F_are_pairs := F4, b_are_pairs := b4, g_are_pairs := PySem.W.mg_of X G a4, a_is_context := f5, fd_is_context := _, F_is_context := F5, b_is_context := b5, g_is_context := PySem.W.mg_of X G a5, a__law_pot := f6, fd__law_pot := _, F__law_pot := F6, b__law_pot := b6, g__law_pot := PySem.W.mg_of X G a6, a__law_draw := f7, fd__law_draw := _, F__law_draw := F7, b__law_draw := b7, g__law_draw := PySem.W.mg_of X G a7, a__law_pick := f8, fd__law_pick := _, F__law_pick := F8, b__law_pick := b8, g__law_pick := PySem.W.mg_of X G a8, a__law_words := f9, fd__law_words := _, F__law_words := F9, b__law_words := b9, g__law_words := PySem.W.mg_of X G a9, a__law_context := f10, fd__law_context := _, F__law_context := F10, b__law_context := b10, g__law_context := PySem.W.mg_of X G a10, a__law_whole := f11, fd__law_whole := _, F__law_whole := F11, b__law_whole := b11, g__law_whole := PySem.W.mg_of X G a11, a__law_is_name := f12, fd__law_is_name := _, F__law_is_name := F12, b__law_is_name := b12, g__law_is_name := PySem.W.mg_of X G a12, a__law_is_pair := f13, fd__law_is_pair := _, F__law_is_pair := F13, b__law_is_pair := b13, g__law_is_pair := PySem.W.mg_of X G a13, a__law_are_pairs := f14, fd__law_are_pairs := _, F__law_are_pairs := F14, b__law_are_pairs := b14, g__law_are_pairs := PySem.W.mg_of X G a14, a__law_is_context := f15, fd__law_is_context := _, F__law_is_context := F15, b__law_is_context := b15, g__law_is_context := PySem.W.mg_of X G a15, a__law_exchanged := f16, fd__law_exchanged := _, F__law_exchanged := F16, b__law_exchanged := b16, g__law_exchanged := PySem.W.mg_of X G a16, a__law_spoilt_item := f17, fd__law_spoilt_item := _, F__law_spoilt_item := F17, b__law_spoilt_item := b17, g__law_spoilt_item := PySem.W.mg_of X G a17, a__law_spoilt_part := f18, fd__law_spoilt_part := _, F__law_spoilt_part := F18, b__law_spoilt_part := b18, g__law_spoilt_part := PySem.W.mg_of X G a18, a__law_spoilt := f19, fd__law_spoilt := _, F__law_spoilt := F19, b__law_spoilt := b19, g__law_spoilt := PySem.W.mg_of X G a19, a__law_told_right := f20, fd__law_told_right := _, F__law_told_right := F20, b__law_told_right := b20, g__law_told_right := PySem.W.mg_of X G a20, a__law_right := f21, fd__law_right := _, F__law_right := F21, b__law_right := b21, g__law_right := PySem.W.mg_of X G a21, a_law := fa, fd_law := _, F_law := F22, b_law := b22, g_law := PySem.W.mg_of X G a22, k_LETTERS := cst_str (PySem.W.mg_of X G y_LETTERS), k_MOST_HANDLERS := cst_int (PySem.W.mg_of X G y_MOST_HANDLERS), k_MOST_LETTERS := cst_int (PySem.W.mg_of X G y_MOST_LETTERS), k_RESERVED := cst_tup (PySem.W.mg_of X G y_RESERVED) yl_RESERVED rfl rfl yz_RESERVED ys_RESERVED, kb0 := fun s ws hl => match ws, hl with | [_, _], _ => .of_eq rfl, m_abs := PySem.W.mg_none_of X G z_abs, m_all := PySem.W.mg_none_of X G z_all, m_bool := PySem.W.mg_none_of X G z_bool, m_divmod := PySem.W.mg_none_of X G z_divmod, m_int := PySem.W.mg_none_of X G z_int, m_isinstance := PySem.W.mg_none_of X G z_isinstance, m_len := PySem.W.mg_none_of X G z_len, m_list := PySem.W.mg_none_of X G z_list, m_max := PySem.W.mg_none_of X G z_max, m_min := PySem.W.mg_none_of X G z_min, m_range := PySem.W.mg_none_of X G z_range, m_repr := PySem.W.mg_none_of X G z_repr, m_set := PySem.W.mg_none_of X G z_set, m_sorted := PySem.W.mg_none_of X G z_sorted, m_str := PySem.W.mg_none_of X G z_str, m_tuple := PySem.W.mg_none_of X G z_tuple, m_zip := PySem.W.mg_none_of X G z_zip }
  refine law_at (cs := []) (fn := f_law) ?_ ?_ ?_ (fun s v => .of_eq rfl) ?_ (noList_of noL) (fun base KX Gb TB hsys => w_law T ?_) hlaw
  · intro p hp
    exact absurd hp (by simp)
  · intro p hp
    exact absurd hp (by simp)
  · intro p hp
    exact absurd hp (by simp)
  · intro q hq
    have hq : q ∈ ([] : List (Addr × Str)) := hq
    exact absurd hq (by simp)
  · exact ⟨hsys⟩
end K71
open PySem PySem.W PyProof.Rows
set_option maxHeartbeats 0 in
theorem PySem.Challenge.cw_nestdeep_k71_contexts_judged_holds : PySem.Challenge.rw_nestdeep_k71_contexts_judged.Holds := by
  w_on; o_law; k_head; (case hw => w_witness2)
  k_fill
  refine DL.walk_D (l := PySem.Challenge.rw_nestdeep_k71_contexts_judged) (n := 63) (k := 7) (x := "_law_script") rfl (by decide) rfl (by first | rfl | decide +kernel) ⟨⟨rfl, by decide, by decide⟩, rfl⟩ (fun w h Y => PySem.W.kIn_of Y) ?F
  case F =>
    intro w mg fa h Y KX G hmg
    refine' K71.all_mk KX G hmg (ts := []) (fun P hP => absurd hP (by simp)) ?noL K71.hlaw ?a0 ?l0 ?c0d ?k0 ?a1 ?l1 ?c1d ?k1 ?a2 ?l2 ?c2d ?k2 ?a3 ?l3 ?c3d ?k3 ?a4 ?l4 ?c4d ?k4 ?a5 ?l5 ?c5d ?k5 ?a6 ?l6 ?c6d ?k6 ?a7 ?l7 ?c7d ?k7 ?a8 ?l8 ?c8d ?k8 ?a9 ?l9 ?c9d ?k9 ?a10 ?l10 ?c10d ?k10 ?a11 ?l11 ?c11d ?k11 ?a12 ?l12 ?c12d ?k12 ?a13 ?l13 ?c13d ?k13 ?a14 ?l14 ?c14d ?k14 ?a15 ?l15 ?c15d ?k15 ?a16 ?l16 ?c16d ?k16 ?a17 ?l17 ?c17d ?k17 ?a18 ?l18 ?c18d ?k18 ?a19 ?l19 ?c19d ?k19 ?a20 ?l20 ?c20d ?k20 ?a21 ?l21 ?c21d ?k21 ?a22 ?l22 ?c22d ?k22 ?y_LETTERS ?y_MOST_HANDLERS ?y_MOST_LETTERS ?y_RESERVED ?yl_RESERVED ?yz_RESERVED ?ys_RESERVED ?z_abs ?z_all ?z_bool ?z_divmod ?z_int ?z_isinstance ?z_len ?z_list ?z_max ?z_min ?z_range ?z_repr ?z_set ?z_sorted ?z_str ?z_tuple ?z_zip
    (case a0 => k_is)
    (case l0 => k_is)
    (case c0d => k_is)
    (case k0 => k_is)
    (case a1 => k_is)
    (case l1 => k_is)
    (case c1d => k_is)
    (case k1 => k_is)
    (case a2 => k_is)
    (case l2 => k_is)
    (case c2d => k_is)
    (case k2 => k_is)
    (case a3 => k_is)
    (case l3 => k_is)
    (case c3d => k_is)
    (case k3 => k_is)
    (case a4 => k_is)
    (case l4 => k_is)
    (case c4d => k_is)
    (case k4 => k_is)
    (case a5 => k_is)
    (case l5 => k_is)
    (case c5d => k_is)
    (case k5 => k_is)
    (case a6 => k_is)
    (case l6 => k_is)
    (case c6d => k_is)
    (case k6 => k_is)
    (case a7 => k_is)
    (case l7 => k_is)
    (case c7d => k_is)
    (case k7 => k_is)
    (case a8 => k_is)
    (case l8 => k_is)
    (case c8d => k_is)
    (case k8 => k_is)
    (case a9 => k_is)
    (case l9 => k_is)
    (case c9d => k_is)
    (case k9 => k_is)
    (case a10 => k_is)
    (case l10 => k_is)
    (case c10d => k_is)
    (case k10 => k_is)
    (case a11 => k_is)
    (case l11 => k_is)
    (case c11d => k_is)
    (case k11 => k_is)
    (case a12 => k_is)
    (case l12 => k_is)
    (case c12d => k_is)
    (case k12 => k_is)
    (case a13 => k_is)
    (case l13 => k_is)
    (case c13d => k_is)
    (case k13 => k_is)
    (case a14 => k_is)
    (case l14 => k_is)
    (case c14d => k_is)
    (case k14 => k_is)
    (case a15 => k_is)
    (case l15 => k_is)
    (case c15d => k_is)
    (case k15 => k_is)
    (case a16 => k_is)
    (case l16 => k_is)
    (case c16d => k_is)
    (case k16 => k_is)
    (case a17 => k_is)
    (case l17 => k_is)
    (case c17d => k_is)
    (case k17 => k_is)
    (case a18 => k_is)
    (case l18 => k_is)
    (case c18d => k_is)
    (case k18 => k_is)
    (case a19 => k_is)
    (case l19 => k_is)
    (case c19d => k_is)
    (case k19 => k_is)
    (case a20 => k_is)
    (case l20 => k_is)
    (case c20d => k_is)
    (case k20 => k_is)
    (case a21 => k_is)
    (case l21 => k_is)
    (case c21d => k_is)
    (case k21 => k_is)
    (case a22 => k_is)
    (case l22 => k_is)
    (case c22d => k_is)
    (case k22 => k_is)
    (case y_LETTERS => k_is)
    (case y_MOST_HANDLERS => k_is)
    (case y_MOST_LETTERS => k_is)
    (case y_RESERVED => k_is)
    (case yl_RESERVED => k_is)
    (case yz_RESERVED => first | rfl | decide +kernel)
    (case ys_RESERVED => first | rfl | decide +kernel)
    (case z_abs => k_is)
    (case z_all => k_is)
    (case z_bool => k_is)
    (case z_divmod => k_is)
    (case z_int => k_is)
    (case z_isinstance => k_is)
    (case z_len => k_is)
    (case z_list => k_is)
    (case z_max => k_is)
    (case z_min => k_is)
    (case z_range => k_is)
    (case z_repr => k_is)
    (case z_set => k_is)
    (case z_sorted => k_is)
    (case z_str => k_is)
    (case z_tuple => k_is)
    (case z_zip => k_is)
    (case noL => first | rfl | k_is)
