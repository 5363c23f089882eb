import PyProof.Rows.All
import Wide.All
import OpenK.AllK
import Wide.FinOn
import HandS.ForMost
import HandS.Deep
import HandS.IsInst
import HandS.TupAny
import HandS.Style
import HandS.Wide
import HandS.WideBits
import HandS.Flow
import HandS.Lambda
import HandS.TupMul
import KE.KeyNested
import KE.KDictKeyed
import HandS.Iter
import HandS.SortKw
import KE.SortKeyHeap
import KE.KDictCopyH
import KE.KDictWalk
import KE.KDictList
import KE.GoesComp
import KE.GoesMore
import HandS.EndTab
import KE.KNestM
import PyProof.ReprRoads
import HandS.Text
import HandS.Zip
import KE.GoesEnumKw
import HandS.Strs
import KE.KDictPairs
import HandS.More
import KE.SortData
import HandS.FStr
import HandS.DictComp
import HandS.Walk
import HandS.DictTup
import HandS.ListItems
import KE.KExcSuper
import HandS.TryMany
import HandS.ExcField
import HandS.ExcIs
import HandS.WordsExc
import HandS.Set
import PyProof.Rows.SortShellAny
import KE.KEqNest
import KE.GoesEnum
import HandS.Finally
import HandS.Small
import KE.DataMinMax
import HandS.Star
import HandS.ReCall
import KE.DataCmp
import HandS.Exc
import HandS.ExcSuper
import HandS.TryOnly
import HandS.TupSets
import HandS.SetFor
import KE.KSortTup
import KE.KDictExact
import PyProof.AutoSeq1
import PyProof.Rows.StrDouble
import HandS.HotCalls
import HandS.ReplaceLit
import PySem.Challenge.RW_nestdeep_k12_lines_and_names_of_anything
import HandS.ReplaceList
import KE.KStrOpen
import KE.KExcLine
import KE.RegKIsAll
set_option Elab.async false
set_option linter.all false
set_option maxRecDepth 100000
set_option maxHeartbeats 1000000
namespace DL
open PySem PySem.Spec PyProof.Rows L2
def SqF (K : PySem.W.Frag) (G : Hp) (a : Addr) (xs : List V) : Prop :=
  (∃ o, G a = some (.frz o (.tup xs)) ∧ o.dict = none) ∨
    ∃ (o : Obj) (its : Array Value) (n : Nat), K.lookup a = some o ∧ o.cls = .type "tuple" ∧ o.dict = none ∧ o.data = .seq its n ∧ its.size ≤ sizeLine ∧ Vals xs its.toList
theorem SqF.t {K : PySem.W.Frag} {G : Hp} {a : Addr} {xs : List V} (h : SqF K G a xs) : SqT K G a xs := by
  rcases h with ⟨o, h, _⟩ | ⟨o, its, n, h1, h2, _, h3, h4, h5⟩
  · exact .inl (.inr ⟨o, h⟩)
  · exact .inr ⟨o, its, n, h1, h2, h3, h4, h5⟩
def tupO (us : Array Value) : Obj := { cls := .type "tuple", data := .seq us }
section
variable {X : Cx} {es : List Expr} {t : TA} {pos : Pos}
theorem lay_tup {pins : List (Addr × Obj)} {σ : L2.St} {H : Hp} {st : Shared} {Q : VK} {ws : List V} {us : List Value} (J : Inv X pins σ H st) (rw' : Vals ws us) (hz : ws.length ≤ sizeLine) (q : ∀ p o, H p = none → o.dict = none → Q (.ref p) (upd H p (.frz o (.tup ws)))) :
    EP X pins σ Q (.ref st.heap.objs.size) { st with heap := st.heap.push (tupO us.toArray) } := by
  have fr : H st.heap.objs.size = none := J.hok.fresh (Nat.le_refl _)
  have at_ : (st.heap.push (tupO us.toArray)).get? st.heap.objs.size = some (tupO us.toArray) := Heap.get?_push_size _ rfl
  have J2 : Inv X pins σ (upd H st.heap.objs.size (.frz (tupO us.toArray) (.tup ws))) { st with heap := st.heap.push (tupO us.toArray), toks := st.toks } :=
    J.laid (fun c x y => Heap.get?_push_of_some _ y) (Nat.le_refl _) ⟨at_, hz, us, rw', ⟨_, at_, rfl, _, rfl⟩⟩
  exact ⟨.ref st.heap.objs.size, _, J2, rfl, q _ _ fr rfl⟩
def tTupF (t : TA) : TE := fun σ H Q => t σ H fun xs H1 => xs.length ≤ sizeLine ∧ ∀ p o, H1 p = none → o.dict = none → Q (.ref p) (upd H1 p (.frz o (.tup xs)))
theorem pe_tupF {x1} (h : PA X es t) : PE X (.Tuple es x1 pos) (tTupF t) :=
  ⟨fun pins st σ H Q J hq => wpAny_Tuple_spliced (thn (h.run pos pins st σ H _ J hq) fun us st1 ⟨ws, H1, J1, rr, z, q⟩ => ⟨by rw [← rr.length]; exact z, lay_tup J1 rr z q⟩)⟩
theorem call_tuple_ofF : CallR X (.type "tuple") (fun xs H Q => ∃ p ys, xs = [.ref p] ∧ ((SqL X.K H p ys ∧ ∀ l o, H l = none → o.dict = none → Q (.ref l) (upd H l (.frz o (.tup ys)))) ∨ (SqT X.K H p ys ∧ Q (.ref p) H))) := by
  intro pins st σ H vs us Q J rr ⟨p, ys, hvs, h⟩
  subst hvs
  obtain ⟨u, rfl, ru⟩ := vals1 rr
  cases ru
  rcases h with ⟨hq, q⟩ | ⟨hq, q⟩
  · obtain ⟨jt, rj, pl, hz⟩ := J.list hq
    have hl := rj.length
    refine call_tuple_list pl.isList (fun h2 kp => ?_) (by rw [List.size_toArray, ← hl]; exact hz)
    exact lay_tup (st := { st with heap := h2 }) (J.kept (t' := st.toks) kp) rj hz q
  · obtain ⟨jt, rj, pl, hz⟩ := J.tuple hq
    exact call_tuple_same pl ⟨.ref p, H, J, rfl, q⟩
def rCatF (K : PySem.W.Frag) : R2 := fun x y H Q => ∃ a b xs ys, x = .ref a ∧ y = .ref b ∧ SqT K H a xs ∧ SqT K H b ys ∧ xs.length + ys.length ≤ sizeLine ∧
  (xs = [] → Q (.ref b) H) ∧ (xs ≠ [] → ys = [] → Q (.ref a) H) ∧ (xs ≠ [] → ys ≠ [] → ∀ p o, H p = none → o.dict = none → Q (.ref p) (upd H p (.frz o (.tup (xs ++ ys)))))
theorem op_catF : OpR X (binaryOp .Add) (rCatF X.K) := by
  intro pins st σ H x y v u Q J rx ry ⟨a, b, xs, ys, hx0, hy0, ha, hb, hz, q0, q1, q2⟩
  subst hx0 hy0
  cases rx
  cases ry
  obtain ⟨jt, ra, pa, _⟩ := J.tuple ha
  obtain ⟨jt2, rb, pb, _⟩ := J.tuple hb
  by_cases hx : xs = []
  · subst hx
    cases ra
    exact cat_tup0 pa pb ⟨.ref b, H, J, rfl, q0 rfl⟩
  · refine HT.cat_tup pa pb (fun z => hx (ra.nil_iff.mp z)) (fun z => ⟨.ref a, H, J, rfl, q1 hx (rb.nil_iff.mp z)⟩) (fun z => ?_) (by rw [← ra.length, ← rb.length]; exact hz)
    exact lay_tup J (ra.append rb) (by rw [List.length_append]; exact hz) (q2 hx fun w => z (rb.nil_iff.mpr w))
def rSlF (K : PySem.W.Frag) : V → Option Int → Option Int → Hp → VK → Prop := fun x lo hi H Q => ∃ a xs, x = .ref a ∧ SqT K H a xs ∧
  (HT.sIx xs.length 0 lo = 0 ∧ HT.sIx xs.length xs.length hi = xs.length → Q (.ref a) H) ∧ (¬ (HT.sIx xs.length 0 lo = 0 ∧ HT.sIx xs.length xs.length hi = xs.length) → ∀ p o, H p = none → o.dict = none → Q (.ref p) (upd H p (.frz o (.tup (cutV xs lo hi)))))
theorem sl_tupF : SlR X (rSlF X.K) := by
  intro pins st σ H x v vl vu lo hi sl Q J rx hs pl pu ⟨a, xs, hx0, hx, q1, q2⟩
  subst hx0
  cases rx
  obtain ⟨jt, rj, tj, hz⟩ := J.tuple hx
  have el : jt.toArray.size = xs.length := by rw [rj.length, List.size_toArray]
  refine ⟨"tuple", _, PyProof.Rows.slot_tuple_getitem.lookup, tj.typeIs, ?_⟩
  by_cases hw : HT.sIx xs.length 0 lo = 0 ∧ HT.sIx xs.length xs.length hi = xs.length
  · exact getItem_tuple_whole tj hs pl pu (by rw [el]; exact hw) ⟨.ref a, H, J, rfl, q1 hw⟩
  · refine HT.getItem_tuple_cut tj hs pl pu (by rw [el]; exact hw) ?_ (by rw [el]; exact hz)
    rw [el]
    exact lay_tup J ((rj.drop _).take _) (Nat.le_trans (cutV_length xs lo hi) hz) (q2 hw)
end
end DL
set_option Elab.async false
set_option linter.all false
set_option maxRecDepth 100000
namespace DL
open PySem L2
def w00 : World := ⟨fun _ _ => 0, { strHash := fun _ => 0, shareClass := fun _ => 0, mergeTok := id, idOf := fun _ => 0, idOfShared := fun _ _ => 0, followText := fun _ => false, idOfImm := fun _ => 0 }⟩
mutual
def nkey : PyData → Option NestedKey
  | .none => some .none
  | .bool b => some (.num (if b = true then 1 else 0))
  | .int i => some (.num i)
  | .str x => some (.text x)
  | .tuple ds => (nkeys ds).map .tup
  | .list _ => none
  | .dict _ => none
def nkeys : List PyData → Option (List NestedKey)
  | [] => some []
  | d :: ds => (nkey d).bind fun k => (nkeys ds).map fun ks => k :: ks
end
def isTupD : PyData → Bool
  | .tuple _ => true
  | _ => false
abbrev MxE := NestedKey × Value × Value
def mxEnt (w : World) (x : MxE) : DictEntry := ⟨x.1.hash w, x.2.1, x.2.2⟩
def MxO (w : World) (a : Addr) (o : Obj) (nks : List NestedKey) (ks vs : List V) : HO := .ext fun h => h.get? a = some o ∧ o.ExactDict ∧ ∃ (es : Array DictEntry) (ep : Nat) (xs : List MxE), o.data = .dict es ep ∧
  es.toList = xs.map (mxEnt w) ∧ xs.map (·.1) = nks ∧ Vals ks (xs.map (·.2.1)) ∧ Vals vs (xs.map (·.2.2)) ∧ (a == sysModules) = false
def keyX (d : PyData) : Bool := isTupD d && decide (d.canLay0 = true) && (match nkey d with | some k => decide (k.depth ≤ 8) | none => false)
def mxOk (es : List (PyData × PyData)) : Bool := !es.isEmpty && es.all fun e => keyX e.1
def notPot : List (PyData × PyData) → Bool
  | (.none, _) :: _ => false
  | (.tuple _, _) :: _ => false
  | _ => true
structure MxK (es : List (PyData × PyData)) (nks : List NestedKey) : Prop where
  ok : mxOk es = true
  nk : nkeys (es.map (·.1)) = some nks
  nd : nks.Nodup
  sz : es.length ≤ 16777216
theorem keyX_inv {d : PyData} (h : keyX d = true) : ∃ ds k, d = .tuple ds ∧ d.canLay0 = true ∧ nkey d = some k ∧ k.depth ≤ 8 := by
  unfold keyX at h
  rw [Bool.and_eq_true, Bool.and_eq_true] at h
  obtain ⟨⟨h1, h2⟩, h3⟩ := h
  cases d with
  | tuple ds =>
    cases e : nkey (.tuple ds) with
    | none =>
      rw [e] at h3
      cases h3
    | some k =>
      rw [e] at h3
      exact ⟨ds, k, rfl, of_decide_eq_true h2, rfl, of_decide_eq_true h3⟩
  | _ => cases h1
theorem mxOk_inv {es : List (PyData × PyData)} (h : mxOk es = true) : es ≠ [] ∧ ∀ e ∈ es, keyX e.1 = true := by
  unfold mxOk at h
  rw [Bool.and_eq_true] at h
  refine ⟨fun z => ?_, fun e he => List.all_eq_true.mp h.2 e he⟩
  subst z
  cases h.1
theorem MxK.keys {es : List (PyData × PyData)} {nks : List NestedKey} (h : MxK es nks) : ∀ e ∈ es, keyX e.1 = true := (mxOk_inv h.ok).2
theorem mxOk_head {k d : PyData} {es : List (PyData × PyData)} (h : mxOk ((k, d) :: es) = true) : ∃ ds, k = .tuple ds := by
  obtain ⟨ds, _, e, _⟩ := keyX_inv ((mxOk_inv h).2 (k, d) List.mem_cons_self)
  exact ⟨ds, e⟩
end DL
set_option Elab.async false
set_option linter.all false
set_option maxRecDepth 100000
namespace DL
open PySem L2
section
variable {X : Cx} {pins : List (Addr × Obj)} {σ : L2.St} {H : Hp} {s : Shared} {d : Addr} {o : Obj}
end
section
variable {P : Program} {w w' : World} {K : PySem.W.Frag} {tg : Expr} {d : Addr} {o : Obj} {es : Array DictEntry} {ep : Nat}
end
section
variable {X : Cx} {tg e : Expr} {td : TE}
end
end DL
set_option Elab.async false
set_option linter.all false
set_option maxRecDepth 100000
namespace DL
open PySem L2
abbrev Pt := Int × Int × Int
structure PP where
  m : Nat → Option Addr
  s : Option Addr
instance : CoeFun PP (fun _ => Nat → Option Addr) := ⟨PP.m⟩
def PP.no (pp : PP) (b : Addr) : Prop := ∀ i, pp i ≠ some b
def pp0 : PP := ⟨fun _ => none, none⟩
def ppP (a : Addr) : PP := ⟨fun i => if i = 0 then some a else none, none⟩
theorem ppP_inv {p : Addr} {j : Nat} {b : Addr} (z : ppP p j = some b) : j = 0 ∧ b = p := by
  have z : (if j = 0 then some p else none) = some b := z
  split at z
  · next e => exact ⟨e, (Option.some.inj z).symm⟩
  · cases z
def PP.sf (pp : PP) (a : Addr) : PP := ⟨pp.m, some a⟩
def atP (ps : Pt) : Nat → HO
  | 0 => .lst [.int ps.1, .int ps.2.1]
  | 1 => .lst [.int ps.2.2]
  | _ => .lst []
theorem atP_lst (ps : Pt) (i : Nat) : ∃ xs, atP ps i = .lst xs := by
  unfold atP
  split <;> exact ⟨_, rfl⟩
def potD : PyData := .dict [(.none, .none), (.none, .none)]
def lefD : PyData := .dict [(.none, .none), (.none, .none), (.none, .none)]
def lamD (k : Nat) (cl : List (Str × Addr)) : PyData := .dict [(.none, .int k), (.none, .tuple (cl.map fun p => .tuple [.str p.1, .int p.2]))]
abbrev cloD (k : Nat) (ds : List PyData) : PyData := .dict [(.none, .int k), (.none, .list ds)]
def slfD : PyData := .dict [(.none, .none)]
theorem same_l {G H : Hp} {a : Addr} {xs : List V} (e : Same G H) (h : Rd G a (.lst xs)) : Rd H a (.lst xs) := by
  rcases h with h | ⟨o, h⟩
  · exact .inl (e _ _ h)
  · exact .inr ⟨o, e _ _ h⟩
theorem same_k {G H : Hp} {a : Addr} {xs : List (Key × V)} (e : Same G H) (h : Rd G a (.dK xs)) : Rd H a (.dK xs) := by
  rcases h with h | ⟨o, h⟩
  · exact .inl (e _ _ h)
  · exact .inr ⟨o, e _ _ h⟩
theorem same_t {K : PySem.W.Frag} {G H : Hp} {a : Addr} {xs : List V} (e : Same G H) (h : SqT K G a xs) : SqT K H a xs := by
  rcases h with (h | ⟨o, h⟩) | h
  · exact .inl (.inl (e _ _ h))
  · exact .inl (.inr ⟨o, e _ _ h⟩)
  · exact .inr h
theorem same_f {K : PySem.W.Frag} {G H : Hp} {a : Addr} {xs : List V} (e : Same G H) (h : SqF K G a xs) : SqF K H a xs := by
  rcases h with ⟨o, h, hd⟩ | h
  · exact .inl ⟨o, e _ _ h, hd⟩
  · exact .inr h
def DkF (G : Hp) (a : Addr) (kvs : List (Key × V)) : Prop := ∃ o, G a = some (.frz o (.dK kvs))
theorem same_dk {G H : Hp} {a : Addr} {kvs : List (Key × V)} (e : Same G H) (h : DkF G a kvs) : DkF H a kvs := by
  obtain ⟨o, h⟩ := h
  exact ⟨o, e _ _ h⟩
theorem DkF.rd {G : Hp} {a : Addr} {kvs : List (Key × V)} (h : DkF G a kvs) : Rd G a (.dK kvs) := .inr h
abbrev prD (x y : PyData) : PyData := .dict [(.none, x), (.int 0, y)]
theorem same_new {H : Hp} {p : Addr} {o : HO} (h : H p = none) : Same H (upd H p o) := fun b x e => by
  rw [upd_ne (ne_of_none e h)]
  exact e
structure LamC where
  params : Arguments
  body : Expr
  scope : Scope
  qual : Str
def LamO (f : Addr) (lc : LamC) (cl : List (Str × Addr)) (c' : Addr) : HO := .ext fun h => ∃ pm ctv : Value, h.get? f = some (PySem.W.kla_obj "<lambda>" lc.qual lc.params lc.body lc.scope cl pm c' ctv)
def CellO (c : Addr) (v : V) : HO := .ext fun h => ∃ u : Value, h.IsCell c (some u) ∧ RelV v u
structure CellsO (G : Hp) (cl : List (Str × Addr)) (vs : List V) : Prop where
  len : cl.length = vs.length
  at_ : ∀ (j : Nat) (y : Str) (c : Addr) (v : V), cl[j]? = some (y, c) → vs[j]? = some v → G c = some (CellO c v)
  nms : (cl.map (·.1)).Nodup
  ads : (cl.map (·.2)).Nodup
theorem CellsO.mono {G G' : Hp} {cl : List (Str × Addr)} {vs : List V} (e : Same G G') (h : CellsO G cl vs) : CellsO G' cl vs := ⟨h.len, fun j y c v h1 h2 => e _ _ (h.at_ j y c v h1 h2), h.nms, h.ads⟩
class TBL where
  T : List (Addr × Str)
  /-- the classes of the exceptions, by their names -/
  C : Str → Addr
  /-- the attributes of the instances of a class, in the order in which they are set -/
  F : Str → List Str
  /-- lambdas that lie in lists -/
  L : Nat → Option LamC
  /-- the world: its hashes -/
  W : World
variable [TBL]
def ObO (G : Hp) (a : Addr) (c : Str) (vs : List V) : Prop := ∃ dx, G a = some (.ins (TBL.C c) dx ((TBL.F c).zip vs)) ∧ vs.length ≤ (TBL.F c).length
theorem same_ob {G H : Hp} {a : Addr} {c : Str} {vs : List V} (e : Same G H) (h : ObO G a c vs) : ObO H a c vs := by
  obtain ⟨dx, h, hl⟩ := h
  exact ⟨dx, e _ _ h, hl⟩
abbrev objE (c : Str) (ds : List PyData) : List (PyData × PyData) := [(.none, .str c), (.none, .tuple ds)]
abbrev objD (c : Str) (ds : List PyData) : PyData := .dict (objE c ds)
def ExcO (a : Addr) (oe : Obj) : HO := .ext fun h => h.get? a = some oe
def ExO (G : Hp) (a : Addr) (c : Str) (vs : List V) : Prop := ∃ (oe : Obj) (fv : Array Value), G a = some (ExcO a oe) ∧ oe.cls = .ref (TBL.C c) ∧ oe.data = .fields fv ∧
  ((TBL.F c = [] ∧ vs = [] ∧ oe.dict = none) ∨ ∃ d, oe.dict = some d ∧ G d = some (.xd ((TBL.F c).zip vs)) ∧ vs.length = (TBL.F c).length ∧ TBL.F c ≠ [])
theorem same_ex {G H : Hp} {a : Addr} {c : Str} {vs : List V} (e : Same G H) (h : ExO G a c vs) : ExO H a c vs := by
  obtain ⟨oe, fv, h1, h2, h3, h4⟩ := h
  refine ⟨oe, fv, e _ _ h1, h2, h3, ?_⟩
  rcases h4 with h4 | ⟨d, q1, q2, q3⟩
  · exact .inl h4
  · exact .inr ⟨d, q1, e _ _ q2, q3⟩
abbrev exvE (c : Str) (ds : List PyData) : List (PyData × PyData) := [(.none, .str c), (.none, .list ds)]
abbrev exvD (c : Str) (ds : List PyData) : PyData := .dict (exvE c ds)
def keyD : Key → PyData
  | .inl i => .int i
  | .inr x => .str x
mutual
inductive Rv (K : PySem.W.Frag) (pp : PP) (G : Hp) : V → PyData → Prop
  | non : Rv K pp G .non .none
  | bl (b : Bool) : Rv K pp G (.bl b) (.bool b)
  | int (i : Int) : Rv K pp G (.int i) (.int i)
  | str (x : Str) : Rv K pp G (.str x) (.str x)
  | lst {a : Addr} {xs : List V} {ds : List PyData} : Rd G a (.lst xs) → RvL K pp G xs ds → Rv K pp G (.ref a) (.list ds)
  | tup {a : Addr} {xs : List V} {ds : List PyData} : SqF K G a xs → RvL K pp G xs ds → Rv K pp G (.ref a) (.tuple ds)
  | pot {a : Addr} : pp 0 = some a → Rv K pp G (.ref a) potD
  | lef {a : Addr} : pp 1 = some a → Rv K pp G (.ref a) lefD
  | slf {a : Addr} : pp.s = some a → Rv K pp G (.ref a) slfD
  | dct {a : Addr} {kvs : List (Key × V)} {es : List (PyData × PyData)} : DkF G a kvs → RvK K pp G kvs es → Rv K pp G (.ref a) (.dict es)
  | pr {a : Addr} {v w : V} {x y : PyData} : SqT K G a [v, w] → Rv K pp G v x → Rv K pp G w y → Rv K pp G (.ref a) (prD x y)
  | obj {a : Addr} {c : Str} {vs : List V} {ds : List PyData} : ObO G a c vs → RvL K pp G vs ds → Rv K pp G (.ref a) (objD c ds)
  | lam {f c' : Addr} {k : Nat} {lc : LamC} {cl : List (Str × Addr)} : TBL.L k = some lc → G f = some (LamO f lc cl c') → G c' = some (LamX.CodeO c' lc.qual) → Rv K pp G (.ref f) (lamD k cl)
  | clo {f c' : Addr} {k : Nat} {lc : LamC} {cl : List (Str × Addr)} {vs : List V} {ds : List PyData} : TBL.L k = some lc → G f = some (LamO f lc cl c') → G c' = some (LamX.CodeO c' lc.qual) → CellsO G cl vs → RvL K pp G vs ds → cl.map (·.1) = (cloFrom [] lc.scope.names []).map (·.1) → Rv K pp G (.ref f) (cloD k ds)
  | exv {a : Addr} {c : Str} {vs : List V} {ds : List PyData} : ExO G a c vs → RvL K pp G vs ds → Rv K pp G (.ref a) (exvD c ds)
  | dkx {a : Addr} {o : Obj} {nks : List NestedKey} {ks vs : List V} {es : List (PyData × PyData)} : G a = some (MxO TBL.W a o nks ks vs) → MxK es nks → RvX K pp G ks vs es → Rv K pp G (.ref a) (.dict es)
inductive RvX (K : PySem.W.Frag) (pp : PP) (G : Hp) : List V → List V → List (PyData × PyData) → Prop
  | nil : RvX K pp G [] [] []
  | cons {k v : V} {ks vs : List V} {y z : PyData} {es : List (PyData × PyData)} : Rv K pp G k y → Rv K pp G v z → RvX K pp G ks vs es → RvX K pp G (k :: ks) (v :: vs) ((y, z) :: es)
inductive RvL (K : PySem.W.Frag) (pp : PP) (G : Hp) : List V → List PyData → Prop
  | nil : RvL K pp G [] []
  | cons {v : V} {vs : List V} {d : PyData} {ds : List PyData} : Rv K pp G v d → RvL K pp G vs ds → RvL K pp G (v :: vs) (d :: ds)
inductive RvK (K : PySem.W.Frag) (pp : PP) (G : Hp) : List (Key × V) → List (PyData × PyData) → Prop
  | nil : RvK K pp G [] []
  | cons {k : Key} {v : V} {kvs : List (Key × V)} {d : PyData} {es : List (PyData × PyData)} : Rv K pp G v d → RvK K pp G kvs es → RvK K pp G ((k, v) :: kvs) ((keyD k, d) :: es)
end
section
variable {K : PySem.W.Frag} {pp : PP} {G G' H : Hp}
mutual
theorem Rv.mono (e : Same G G') : ∀ (d : PyData) (v : V), Rv K pp G v d → Rv K pp G' v d
  | .none, _, h => by cases h; exact .non
  | .bool b, _, h => by cases h; exact .bl b
  | .int i, _, h => by cases h; exact .int i
  | .str x, _, h => by cases h; exact .str x
  | .list ds, _, h => by
    cases h with
    | lst hs ha => exact .lst (same_l e hs) (RvL.mono e ds _ ha)
  | .tuple ds, _, h => by
    cases h with
    | tup hs ha => exact .tup (same_f e hs) (RvL.mono e ds _ ha)
  | .dict kvs, _, h => by
    cases h with
    | pot q => exact .pot q
    | lef q => exact .lef q
    | slf q => exact .slf q
    | dct hs ha => exact .dct (same_dk e hs) (RvK.mono e kvs _ ha)
    | pr hs ha hb => exact .pr (same_t e hs) (Rv.mono e _ _ ha) (Rv.mono e _ _ hb)
    | obj hs ha => exact .obj (same_ob e hs) (RvL.mono e _ _ ha)
    | lam h1 h2 h3 => exact .lam h1 (e _ _ h2) (e _ _ h3)
    | clo h1 h2 h3 h4 ha hm => exact .clo h1 (e _ _ h2) (e _ _ h3) (h4.mono e) (RvL.mono e _ _ ha) hm
    | exv hs ha => exact .exv (same_ex e hs) (RvL.mono e _ _ ha)
    | dkx h1 h2 h3 => exact .dkx (e _ _ h1) h2 (RvX.mono e kvs _ _ h3)
theorem RvX.mono (e : Same G G') : ∀ (es : List (PyData × PyData)) (ks vs : List V), RvX K pp G ks vs es → RvX K pp G' ks vs es
  | [], _, _, h => by cases h; exact .nil
  | (kd, d) :: es, _, _, h => by
    cases h with
    | cons a b c => exact .cons (Rv.mono e kd _ a) (Rv.mono e d _ b) (RvX.mono e es _ _ c)
theorem RvL.mono (e : Same G G') : ∀ (ds : List PyData) (vs : List V), RvL K pp G vs ds → RvL K pp G' vs ds
  | [], _, h => by cases h; exact .nil
  | d :: ds, _, h => by
    cases h with
    | cons a b => exact .cons (Rv.mono e d _ a) (RvL.mono e ds _ b)
theorem RvK.mono (e : Same G G') : ∀ (es : List (PyData × PyData)) (kvs : List (Key × V)), RvK K pp G kvs es → RvK K pp G' kvs es
  | [], _, h => by cases h; exact .nil
  | (_, d) :: es, _, h => by
    cases h with
    | cons a b => exact .cons (Rv.mono e d _ a) (RvK.mono e es _ b)
end
mutual
theorem Rv.dp (e : Same G H) : ∀ (d : PyData) (v : V), Rv K pp G v d → d.canLay0 = true → Dp K H v d
  | .none, _, h, _ => by cases h; exact .non
  | .bool b, _, h, _ => by cases h; exact .bl b
  | .int i, _, h, _ => by cases h; exact .int i
  | .str x, _, h, _ => by cases h; exact .str x
  | .list ds, _, h, c => by
    cases h with
    | lst hs ha => exact .lst (.inl (same_l e hs)) (RvL.dp e ds _ ha (by simpa only [PyData.canLay0] using c))
  | .tuple ds, _, h, c => by
    cases h with
    | tup hs ha => exact .tup (same_t e hs.t) (RvL.dp e ds _ ha (by simpa only [PyData.canLay0] using c))
  | .dict kvs, _, h, c => by simp [PyData.canLay0] at c
theorem RvL.dp (e : Same G H) : ∀ (ds : List PyData) (vs : List V), RvL K pp G vs ds → PyData.canLayAll0 ds = true → DpAll K H vs ds
  | [], _, h, _ => by cases h; exact .nil
  | d :: ds, _, h, c => by
    have c' : d.canLay0 = true ∧ PyData.canLayAll0 ds = true := by
      simpa only [PyData.canLayAll0, Bool.and_eq_true] using c
    cases h with
    | cons a b => exact .cons (Rv.dp e d _ a c'.1) (RvL.dp e ds _ b c'.2)
end
theorem RvL.length : ∀ {vs : List V} {ds : List PyData}, RvL K pp G vs ds → vs.length = ds.length
  | _, _, .nil => rfl
  | _, _, .cons _ t => congrArg (· + 1) t.length
theorem RvL.get : ∀ {vs : List V} {ds : List PyData} {i : Nat} {d : PyData}, RvL K pp G vs ds → ds[i]? = some d → ∃ v, vs[i]? = some v ∧ Rv K pp G v d
  | _, _, _, _, .nil, e => by simp at e
  | _, _, 0, _, .cons r _, e => by
    have e' := Option.some.inj (show some _ = some _ from e)
    subst e'
    exact ⟨_, rfl, r⟩
  | _, _, i + 1, d, .cons _ t, e => by
    obtain ⟨v, h1, h2⟩ := RvL.get (i := i) (d := d) t (by simpa using e)
    exact ⟨v, by simpa using h1, h2⟩
theorem RvL.app : ∀ {vs ws : List V} {ds es : List PyData}, RvL K pp G vs ds → RvL K pp G ws es → RvL K pp G (vs ++ ws) (ds ++ es)
  | _, _, _, _, .nil, s => s
  | _, _, _, _, .cons r t, s => .cons r (RvL.app t s)
theorem RvL.take : ∀ {vs : List V} {ds : List PyData} (n : Nat), RvL K pp G vs ds → RvL K pp G (vs.take n) (ds.take n)
  | _, _, 0, _ => .nil
  | _, _, _ + 1, .nil => .nil
  | _, _, n + 1, .cons r t => .cons r (RvL.take n t)
theorem RvL.drop : ∀ {vs : List V} {ds : List PyData} (n : Nat), RvL K pp G vs ds → RvL K pp G (vs.drop n) (ds.drop n)
  | _, _, 0, r => r
  | _, _, _ + 1, .nil => .nil
  | _, _, n + 1, .cons _ t => RvL.drop n t
theorem RvL.rev : ∀ {vs : List V} {ds : List PyData}, RvL K pp G vs ds → RvL K pp G vs.reverse ds.reverse
  | _, _, .nil => .nil
  | _, _, .cons r t => by
    rw [List.reverse_cons, List.reverse_cons]
    exact RvL.app (RvL.rev t) (.cons r .nil)
theorem rv_int {v : V} {i : Int} (h : Rv K pp G v (.int i)) : v = .int i := by cases h; rfl
theorem rv_bl {v : V} {b : Bool} (h : Rv K pp G v (.bool b)) : v = .bl b := by cases h; rfl
theorem rv_str {v : V} {x : Str} (h : Rv K pp G v (.str x)) : v = .str x := by cases h; rfl
theorem rv_lst {v : V} {ds : List PyData} (h : Rv K pp G v (.list ds)) : ∃ a xs, v = .ref a ∧ Rd G a (.lst xs) ∧ RvL K pp G xs ds := by
  cases h with
  | lst a b => exact ⟨_, _, rfl, a, b⟩
theorem rv_tup {v : V} {ds : List PyData} (h : Rv K pp G v (.tuple ds)) : ∃ a xs, v = .ref a ∧ SqF K G a xs ∧ RvL K pp G xs ds := by
  cases h with
  | tup a b => exact ⟨_, _, rfl, a, b⟩
end
mutual
theorem rv_plain {K : PySem.W.Frag} {pp pp' : PP} {G : Hp} : ∀ (d : PyData) (v : V), d.canLay0 = true → Rv K pp G v d → Rv K pp' G v d
  | .none, _, _, h => by cases h; exact .non
  | .bool b, _, _, h => by cases h; exact .bl b
  | .int i, _, _, h => by cases h; exact .int i
  | .str x, _, _, h => by cases h; exact .str x
  | .list ds, _, c, h => by
    cases h with
    | lst hs ha => exact .lst hs (rvl_plain ds _ (by simpa only [PyData.canLay0] using c) ha)
  | .tuple ds, _, c, h => by
    cases h with
    | tup hs ha => exact .tup hs (rvl_plain ds _ (by simpa only [PyData.canLay0] using c) ha)
  | .dict kvs, _, c, _ => by simp [PyData.canLay0] at c
theorem rvl_plain {K : PySem.W.Frag} {pp pp' : PP} {G : Hp} : ∀ (ds : List PyData) (vs : List V), PyData.canLayAll0 ds = true → RvL K pp G vs ds → RvL K pp' G vs ds
  | [], _, _, h => by cases h; exact .nil
  | d :: ds, _, c, h => by
    have c' : d.canLay0 = true ∧ PyData.canLayAll0 ds = true := by
      simpa only [PyData.canLayAll0, Bool.and_eq_true] using c
    cases h with
    | cons a b => exact .cons (rv_plain d _ c'.1 a) (rvl_plain ds _ c'.2 b)
end
def NT (o : HO) : Prop := ∀ ps, o ≠ .tbl ps
theorem nt_lst {xs : List V} : NT (.lst xs) := fun _ z => by cases z
theorem nt_tup {xs : List V} : NT (.tup xs) := fun _ z => by cases z
theorem nt_ext {φ : Heap → Prop} : NT (.ext φ) := fun _ z => by cases z
theorem nt_frz {o : Obj} {u : HO} : NT (.frz o u) := fun _ z => by cases z
theorem nt_dK {xs : List (Key × V)} : NT (.dK xs) := fun _ z => by cases z
def OwnB : HO → Bool
  | .lst _ => true
  | .dK _ => true
  | .ins _ _ _ => true
  | _ => false
theorem nt_ins {C dx : Addr} {fs : List (Str × V)} : NT (.ins C dx fs) := fun _ z => by cases z
theorem ownB_nt {o : HO} (h : OwnB o = true) : NT o := fun ps z => by
  subst z
  cases h
def PlB : HO → Bool
  | .lst _ => true
  | .dK _ => true
  | .frz _ _ => true
  | .ins _ _ _ => true
  | _ => false
theorem ownB_pl {o : HO} (h : OwnB o = true) : PlB o = true := by
  cases o <;> first | rfl | cases h
theorem tab_upd {T : List (Addr × Str)} {H : Hp} {p : Addr} {o0 o : HO} (h : H p = some o0) (hb : PlB o0 = true) (t : LamX.Tabs T H) : LamX.Tabs T (upd H p o) := fun q hq => by
  obtain ⟨ps, h1, h2, h3⟩ := t q hq
  refine ⟨ps, ?_, h2, fun pos cv hc => ?_⟩
  · rw [upd_ne (ne_of h1 h (fun z => by subst z; cases hb))]
    exact h1
  · obtain ⟨c, e1, e2⟩ := h3 pos cv hc
    refine ⟨c, e1, ?_⟩
    rw [upd_ne (ne_of e2 h (fun z => by unfold LamX.CodeO at z; subst z; cases hb))]
    exact e2
section
structure OT (G H : Hp) : Prop where
  one : ∀ b ps, H b = some (.tbl ps) → ∃ q, (b, q) ∈ TBL.T
  cod : ∀ p ∈ TBL.T, ∀ ps, H p.1 = some (.tbl ps) → ∀ (pos : Pos) (cv : Value), codeAmong pos ps.toList = some cv → ∃ c, cv = .ref c ∧ G c = some (LamX.CodeO c p.2)
theorem OT.mono {G G' H : Hp} (e : Same G G') (h : OT G H) : OT G' H := ⟨h.one, fun p hp ps hps pos cv hc => let ⟨c, e1, e2⟩ := h.cod p hp ps hps pos cv hc; ⟨c, e1, e _ _ e2⟩⟩
def VT (G : Hp) : Prop := ∀ b ps, G b ≠ some (.tbl ps)
theorem ot_upd {G H : Hp} {p : Addr} {o : HO} (nt : NT o) (h : OT G H) : OT G (upd H p o) := by
  have key : ∀ b ps, upd H p o b = some (.tbl ps) → H b = some (.tbl ps) := fun b ps e => by
    by_cases hb : b = p
    · subst hb
      rw [upd_same] at e
      exact absurd (Option.some.inj e) (nt ps)
    · rw [upd_ne hb] at e
      exact e
  exact ⟨fun b ps e => h.one b ps (key b ps e), fun q hq ps e => h.cod q hq ps (key _ ps e)⟩
theorem vt_upd {G : Hp} {p : Addr} {o : HO} (nt : NT o) (h : VT G) : VT (upd G p o) := fun b ps e => by
  by_cases hb : b = p
  · subst hb
    rw [upd_same] at e
    exact absurd (Option.some.inj e) (nt ps)
  · rw [upd_ne hb] at e
    exact h b ps e
structure Cf (pp : PP) (ps : Pt) (G H : Hp) : Prop where
  ex : Same G H
  pot : ∀ i a, pp i = some a → G a = none ∧ H a = some (atP ps i)
  pnd : ∀ i j a, pp i = some a → pp j = some a → i = j
  tb : LamX.Tabs TBL.T H
  vt : VT G
  ot : OT G H
structure Go (pp : PP) (ps' : Pt) (ow : List Addr) (G H G' H' : Hp) : Prop where
  gg : Same G G'
  cf : Cf pp ps' G' H'
  fresh : ∀ b o, G' b = some o → G b = none → H b = none
  keep : ∀ b o, H b = some o → pp.no b → b ∉ ow → NT o → H' b = some o
  there : ∀ b, H' b = none → H b = none
section
variable {pp : PP} {ps ps1 ps2 : Pt} {ow : List Addr} {G H G1 H1 G2 H2 : Hp}
theorem Go.refl (c : Cf pp ps G H) : Go pp ps ow G H G H := ⟨Same.refl G, c, fun b o h n => absurd (n.symm.trans h) (by simp), fun _ _ h _ _ _ => h, fun _ h => h⟩
theorem Go.none_of (g : Go pp ps1 [] G H G1 H1) {b : Addr} (h : H1 b = none) : H b = none := g.there b h
theorem Go.trans (a : Go pp ps1 [] G H G1 H1) (b : Go pp ps2 [] G1 H1 G2 H2) : Go pp ps2 [] G H G2 H2 where
  gg := a.gg.trans b.gg
  cf := b.cf
  fresh := fun c o h n => by
    cases q : G1 c with
    | none => exact a.none_of (b.fresh c o h q)
    | some u => exact a.fresh c u q n
  keep := fun c o h hp ho nt => b.keep c o (a.keep c o h hp ho nt) hp ho nt
  there := fun c h => a.there c (b.there c h)
theorem Go.mono {ow' : List Addr} (g : Go pp ps1 ow G H G1 H1) (h : ∀ b ∈ ow, b ∈ ow') : Go pp ps1 ow' G H G1 H1 := ⟨g.gg, g.cf, g.fresh, fun b o x y z nt => g.keep b o x y (fun m => z (h b m)) nt, g.there⟩
theorem Go.lay {p : Addr} {o : HO} (c : Cf pp ps G H) (h : H p = none) (nt : NT o := by first | exact nt_lst | exact nt_tup | exact nt_ext | exact nt_dK | exact nt_frz) : Go pp ps ow G H (upd G p o) (upd H p o) := by
  have hg : G p = none := c.ex.free h
  refine ⟨same_new hg, ⟨fun b x e => ?_, fun i a ha => ?_, c.pnd, c.tb.ext (same_new h), vt_upd nt c.vt, (ot_upd nt c.ot).mono (same_new hg)⟩, fun b x e n => ?_, fun b x e _ _ _ => same_new h b x e, fun b e => (same_new h).free e⟩
  · by_cases hb : b = p
    · subst hb
      rw [upd_same] at e ⊢
      exact e
    · rw [upd_ne hb] at e ⊢
      exact c.ex b x e
  · have hne : a ≠ p := fun z => by
      subst z
      rw [(c.pot i a ha).2] at h
      cases h
    rw [upd_ne hne, upd_ne hne]
    exact c.pot i a ha
  · by_cases hb : b = p
    · subst hb
      exact h
    · rw [upd_ne hb, n] at e
      cases e
theorem Go.hide {p : Addr} {o : HO} (c : Cf pp ps G H) (h : H p = none) (nt : NT o := by first | exact nt_lst | exact nt_tup | exact nt_ext | exact nt_dK | exact nt_frz) : Go pp ps ow G H G (upd H p o) := by
  refine ⟨Same.refl G, ⟨c.ex.trans (same_new h), fun i a ha => ⟨(c.pot i a ha).1, same_new h a _ (c.pot i a ha).2⟩, c.pnd, c.tb.ext (same_new h), c.vt, ot_upd nt c.ot⟩, fun b x e n => absurd (n.symm.trans e) (by simp), fun b x e _ _ _ => same_new h b x e, fun b e => (same_new h).free e⟩
end
end
inductive SV where
  | un
  | dat (d : PyData)
  | own (d : PyData)
abbrev Sd := List SV
def OwnO (K : PySem.W.Frag) (pp : PP) (G : Hp) : HO → PyData → Prop
  | .lst vs, .list ds => RvL K pp G vs ds
  | .dK kvs, .dict es => RvK K pp G kvs es
  | .ins C _ fs, .dict es => ∃ c ds vs, es = objE c ds ∧ C = TBL.C c ∧ fs = (TBL.F c).zip vs ∧ vs.length ≤ (TBL.F c).length ∧ RvL K pp G vs ds
  | _, _ => False
section
variable {K : PySem.W.Frag} {pp : PP} {G G' : Hp} {o : HO} {d : PyData}
theorem OwnO.ob (h : OwnO K pp G o d) : OwnB o = true := by
  unfold OwnO at h
  split at h
  · rfl
  · rfl
  · rfl
  · exact h.elim
theorem OwnO.mono (e : Same G G') (h : OwnO K pp G o d) : OwnO K pp G' o d := by
  unfold OwnO at h ⊢
  split at h
  · exact RvL.mono e _ _ h
  · exact RvK.mono e _ _ h
  · obtain ⟨c, ds, vs, h1, h2, h3, h4, h5⟩ := h
    exact ⟨c, ds, vs, h1, h2, h3, h4, RvL.mono e _ _ h5⟩
  · exact h.elim
theorem OwnO.lst {ds : List PyData} (h : OwnO K pp G o (.list ds)) : ∃ vs, o = .lst vs ∧ RvL K pp G vs ds := by
  unfold OwnO at h
  split at h
  · next e => cases e; exact ⟨_, rfl, h⟩
  · next e => cases e
  · next e => cases e
  · exact h.elim
theorem OwnO.dct {es : List (PyData × PyData)} (h : OwnO K pp G o (.dict es)) (hn : notPot es = true) : ∃ kvs, o = .dK kvs ∧ RvK K pp G kvs es := by
  unfold OwnO at h
  split at h
  · next e => cases e
  · next e => cases e; exact ⟨_, rfl, h⟩
  · next e =>
    cases e
    obtain ⟨c, ds, vs, rfl, _⟩ := h
    cases hn
  · exact h.elim
theorem OwnO.ins {c : Str} {ds : List PyData} (h : OwnO K pp G o (objD c ds)) : ∃ dx vs, o = .ins (TBL.C c) dx ((TBL.F c).zip vs) ∧ vs.length ≤ (TBL.F c).length ∧ RvL K pp G vs ds := by
  unfold OwnO at h
  split at h
  · next e => cases e
  · next kvs es e =>
    cases e
    generalize q : objE c ds = z at h
    cases h with
    | nil => cases q
    | @cons k v kvs d es a b =>
      have e1 := (Prod.mk.inj (List.cons.inj q).1).1
      cases k <;> cases e1
  · next e =>
    cases e
    obtain ⟨c', ds', vs, e1, h2, h3, h4, h5⟩ := h
    cases e1
    subst h2 h3
    exact ⟨_, vs, rfl, h4, h5⟩
  · exact h.elim
def viewO (od : Obj) : HO → HO
  | .dK kvs => .frz od (.dK kvs)
  | o => o
theorem pl_view {od : Obj} (h : OwnB o = true) : PlB (viewO od o) = true := by
  cases o <;> first | rfl | cases h
theorem nt_view {od : Obj} (h : OwnB o = true) : NT (viewO od o) := by
  cases o <;> first | exact nt_lst | exact nt_frz | exact nt_ins | cases h
theorem OwnO.rv {p : Addr} (od : Obj) (hG : G p = none) (h : OwnO K pp G o d) : Rv K pp (upd G p (viewO od o)) (.ref p) d := by
  unfold OwnO at h
  split at h
  · exact .lst (.inl upd_same) (RvL.mono (same_new hG) _ _ h)
  · exact .dct ⟨od, upd_same⟩ (RvK.mono (same_new hG) _ _ h)
  · obtain ⟨c, ds, vs, rfl, rfl, rfl, h4, h5⟩ := h
    exact .obj ⟨_, upd_same, h4⟩ (RvL.mono (same_new hG) _ _ h5)
  · exact h.elim
end
def SlOk (K : PySem.W.Frag) (pp : PP) (G H : Hp) : SV → Option V → Prop
  | .un, _ => True
  | .dat d, o => ∃ v, o = some v ∧ Rv K pp G v d
  | .own d, o => ∃ p ob, o = some (.ref p) ∧ H p = some ob ∧ G p = none ∧ pp.no p ∧ OwnO K pp G ob d
def Owned (S : Sd) (σ : L2.St) (p : Addr) : Prop := ∃ (i : Nat) (ds : PyData), S[i]? = some (SV.own ds) ∧ σ[i]? = some (some (V.ref p))
structure Sl (K : PySem.W.Frag) (pp : PP) (G H : Hp) (S : Sd) (σ : L2.St) : Prop where
  len : S.length = σ.length
  each : ∀ (i : Nat) (sv : SV), S[i]? = some sv → ∃ o, σ[i]? = some o ∧ SlOk K pp G H sv o
  apart : ∀ (i j : Nat) (ds es : PyData) (p : Addr), S[i]? = some (.own ds) → S[j]? = some (.own es) → σ[i]? = some (some (.ref p)) → σ[j]? = some (some (.ref p)) → i = j
section
variable {K : PySem.W.Frag} {pp : PP} {ps ps1 : Pt} {G H G1 H1 : Hp} {S : Sd} {σ : L2.St}
theorem Sl.go (s : Sl K pp G H S σ) (g : Go pp ps1 [] G H G1 H1) : Sl K pp G1 H1 S σ := by
  refine ⟨s.len, fun i sv e => ?_, s.apart⟩
  obtain ⟨o, h1, h2⟩ := s.each i sv e
  refine ⟨o, h1, ?_⟩
  cases sv with
  | un => trivial
  | dat d =>
    obtain ⟨v, rfl, r⟩ := h2
    exact ⟨v, rfl, Rv.mono g.gg d v r⟩
  | own ds =>
    obtain ⟨p, vs, rfl, hp, gp, np, r⟩ := h2
    refine ⟨p, vs, rfl, g.keep p _ hp np (by simp) (ownB_nt r.ob), ?_, np, r.mono g.gg⟩
    cases q : G1 p with
    | none => rfl
    | some u =>
      have := g.fresh p u q gp
      rw [hp] at this
      cases this
end
end DL
set_option Elab.async false
set_option linter.all false
set_option maxRecDepth 100000
namespace DL
open PySem L2
variable [TBL]
abbrev EG := Sd → Pt → Option (PyData × Pt)
abbrev AG := Sd → Pt → Option (List PyData × Pt)
abbrev BG := Sd → Pt → Option (Bool × Pt)
def bindP {α β : Type} (r : Option (α × Pt)) (k : α → Pt → Option (β × Pt)) : Option (β × Pt) := match r with
  | some (a, p) => k a p
  | none => none
@[simp] theorem bindP_some {α β : Type} (a : α) (p : Pt) (k : α → Pt → Option (β × Pt)) : bindP (some (a, p)) k = k a p := rfl
@[simp] theorem bindP_none {α β : Type} (k : α → Pt → Option (β × Pt)) : bindP none k = none := rfl
theorem bindP_inv {α β : Type} {r : Option (α × Pt)} {k : α → Pt → Option (β × Pt)} {z : β × Pt} (h : bindP r k = some z) : ∃ a p, r = some (a, p) ∧ k a p = some z := by
  cases r with
  | none => cases h
  | some x => exact ⟨x.1, x.2, rfl, h⟩
def TD (K : PySem.W.Frag) (g : EG) : TE := fun σ H Q => ∃ (pp : PP) (ps : Pt) (G : Hp) (S : Sd) (d : PyData) (ps' : Pt), Cf pp ps G H ∧ Sl K pp G H S σ ∧ g S ps = some (d, ps') ∧
  ∀ v G' H', Go pp ps' [] G H G' H' → Rv K pp G' v d → Q v H'
def TDT (K : PySem.W.Frag) (g : BG) : TT := fun σ H Q => ∃ (pp : PP) (ps : Pt) (G : Hp) (S : Sd) (b : Bool) (ps' : Pt), Cf pp ps G H ∧ Sl K pp G H S σ ∧ g S ps = some (b, ps') ∧
  ∀ G' H', Go pp ps' [] G H G' H' → Q b H'
def TDA (K : PySem.W.Frag) (g : AG) : TA := fun σ H Q => ∃ (pp : PP) (ps : Pt) (G : Hp) (S : Sd) (ds : List PyData) (ps' : Pt), Cf pp ps G H ∧ Sl K pp G H S σ ∧ g S ps = some (ds, ps') ∧
  ∀ vs G' H', Go pp ps' [] G H G' H' → RvL K pp G' vs ds → Q vs H'
def rD2 (K : PySem.W.Frag) (o : PyData → PyData → Option PyData) : R2 := fun v w H Q => ∃ (pp : PP) (ps : Pt) (G : Hp) (x y d : PyData), Cf pp ps G H ∧ Rv K pp G v x ∧ Rv K pp G w y ∧ o x y = some d ∧
  ∀ z G' H', Go pp ps [] G H G' H' → Rv K pp G' z d → Q z H'
def rDL (K : PySem.W.Frag) (o : List PyData → Option PyData) : List V → Hp → VK → Prop := fun vs H Q => ∃ (pp : PP) (ps : Pt) (G : Hp) (xs : List PyData) (d : PyData), Cf pp ps G H ∧ RvL K pp G vs xs ∧ o xs = some d ∧
  ∀ z G' H', Go pp ps [] G H G' H' → Rv K pp G' z d → Q z H'
abbrev PD (X : Cx) (e : Expr) (g : EG) : Prop := PE X e (TD X.K g)
abbrev PDT (X : Cx) (e : Expr) (g : BG) : Prop := PT X e (TDT X.K g)
abbrev PDW (X : Cx) (e : Expr) (g : BG) : Prop := PW X e (TDT X.K g)
abbrev PDA (X : Cx) (es : List Expr) (g : AG) : Prop := PA X es (TDA X.K g)
section
variable {X : Cx}
theorem pe_imp {e : Expr} {t t' : TE} (h : PE X e t) (i : ∀ σ H Q, t' σ H Q → t σ H Q) : PE X e t' := ⟨fun pins s σ H Q I q => h.run pins s σ H Q I (i σ H Q q)⟩
theorem pt_imp {e : Expr} {t t' : TT} (h : PT X e t) (i : ∀ σ H Q, t' σ H Q → t σ H Q) : PT X e t' := ⟨fun pins s σ H Q I q => h.run pins s σ H Q I (i σ H Q q)⟩
theorem pw_imp {e : Expr} {t t' : TT} (h : PW X e t) (i : ∀ σ H Q, t' σ H Q → t σ H Q) : PW X e t' := ⟨fun wh pins s σ H Q I q => h.run wh pins s σ H Q I (i σ H Q q)⟩
theorem pa_imp {es : List Expr} {t t' : TA} (h : PA X es t) (i : ∀ σ H Q, t' σ H Q → t σ H Q) : PA X es t' := ⟨fun pos pins s σ H Q I q => h.run pos pins s σ H Q I (i σ H Q q)⟩
def eVar (i : Nat) : EG := fun S ps => match S[i]? with
  | some (.dat d) => some (d, ps)
  | _ => none
theorem eVar_inv {i : Nat} {S : Sd} {ps ps' : Pt} {d : PyData} (h : eVar i S ps = some (d, ps')) : S[i]? = some (.dat d) ∧ ps' = ps := by
  unfold eVar at h
  split at h
  · next d' e =>
    cases h
    exact ⟨e, rfl⟩
  · cases h
theorem pd_var (i : Nat) {x : Str} {pos : Pos} (hN : X.N[i]? = some x := by rfl) (hv : Vis X.env.scope x := by first | exact Or.inl rfl | exact Or.inr (Or.inl rfl) | exact Or.inr (Or.inr rfl))
    (hd : (x == ("__debug__" : Str)) = false := by decide) (hcd : (x == ("__classdict__" : Str)) = false := by decide) : PD X (.Name x pos) (eVar i) :=
  pe_imp (pe_var hN hv hd hcd) fun σ H Q ⟨pp, ps, G, S, d, ps', c, s, e, k⟩ => by
    obtain ⟨e1, rfl⟩ := eVar_inv e
    obtain ⟨o, h1, v, rfl, r⟩ := s.each i _ e1
    exact ⟨v, h1, k v G H (Go.refl c) r⟩
def eC (d : PyData) : EG := fun _ ps => some (d, ps)
theorem pd_c {e : Expr} {v : V} {d : PyData} (h : PE X e (tC v)) (r : ∀ pp G, Rv X.K pp G v d) : PD X e (eC d) := pe_imp h fun σ H Q ⟨pp, ps, G, S, d', ps', c, s, e, k⟩ => by
  cases e
  exact k v G H (Go.refl c) (r pp G)
theorem pd_int {i : Int} {j : Nat} {pos : Pos} : PD X (.Constant (.int i) j pos) (eC (.int i)) := pd_c pe_int fun _ _ => .int i
theorem pd_str {x : Str} {j : Nat} {pos : Pos} : PD X (.Constant (.str x) j pos) (eC (.str x)) := pd_c pe_str fun _ _ => .str x
theorem pd_bl {b : Bool} {j : Nat} {pos : Pos} : PD X (.Constant (.bool b) j pos) (eC (.bool b)) := pd_c pe_bl fun _ _ => .bl b
theorem pd_non {j : Nat} {pos : Pos} : PD X (.Constant .none j pos) (eC .none) := pd_c pe_non fun _ _ => .non
def aNil : AG := fun _ ps => some ([], ps)
def aCons (g : EG) (gs : AG) : AG := fun S ps => bindP (g S ps) fun d p => bindP (gs S p) fun ds p' => some (d :: ds, p')
theorem pda_nil : PDA X [] aNil := pa_imp pa_nil fun σ H Q ⟨pp, ps, G, S, d, ps', c, s, e, k⟩ => by
  cases e
  exact k [] G H (Go.refl c) .nil
theorem pda_cons {e : Expr} {es : List Expr} {g : EG} {gs : AG} (h : PD X e g) (hs : PDA X es gs) (hst : starEach (e :: es) X.env = (false, eval e X.env) :: starEach es X.env := by rfl) : PDA X (e :: es) (aCons g gs) :=
  pa_imp (pa_cons h hs hst) fun σ H Q ⟨pp, ps, G, S, d, ps', c, s, e, k⟩ => by
    obtain ⟨d1, p1, e1, e⟩ := bindP_inv e
    obtain ⟨d2, p2, e2, e⟩ := bindP_inv e
    cases e
    exact ⟨pp, ps, G, S, d1, p1, c, s, e1, fun v G1 H1 g1 r1 => ⟨pp, p1, G1, S, d2, _, g1.cf, s.go g1, e2, fun vs G2 H2 g2 r2 => k _ G2 H2 (g1.trans g2) (.cons (Rv.mono g2.gg _ _ r1) r2)⟩⟩
def fitsL (ds : List PyData) : Bool := decide (ds.length ≤ 16777216)
theorem fits_size {ds : List PyData} (h : fitsL ds = true) : ds.length ≤ sizeLine := by
  have h1 : ds.length ≤ 16777216 := of_decide_eq_true h
  rw [sizeLine_eq]
  exact h1
def eTup (gs : AG) : EG := fun S ps => bindP (gs S ps) fun ds p => if fitsL ds then some (.tuple ds, p) else none
def eLst (gs : AG) : EG := fun S ps => bindP (gs S ps) fun ds p => if fitsL ds then some (.list ds, p) else none
theorem ite_inv {α : Type} {b : Bool} {x z : α} (h : (if b = true then some x else none) = some z) : b = true ∧ x = z := by
  cases b with
  | true => exact ⟨rfl, Option.some.inj h⟩
  | false => cases h
theorem pd_tup {es : List Expr} {gs : AG} {x1 : Nat} {pos : Pos} (h : PDA X es gs) : PD X (.Tuple es x1 pos) (eTup gs) := pe_imp (pe_tupF h) fun σ H Q ⟨pp, ps, G, S, d, ps', c, s, e, k⟩ => by
  obtain ⟨ds, p1, e1, e⟩ := bindP_inv e
  obtain ⟨hf, e⟩ := ite_inv e
  cases e
  refine ⟨pp, ps, G, S, ds, ps', c, s, e1, fun vs G1 H1 g1 r1 => ⟨by rw [r1.length]; exact fits_size hf, fun p o hp hd => ?_⟩⟩
  have gl : Go pp ps' [] G1 H1 (upd G1 p (.frz o (.tup vs))) (upd H1 p (.frz o (.tup vs))) := Go.lay g1.cf hp
  exact k _ _ _ (g1.trans gl) (.tup (.inl ⟨o, upd_same, hd⟩) (RvL.mono gl.gg _ _ r1))
theorem pd_lst {es : List Expr} {gs : AG} {pos : Pos} (h : PDA X es gs) : PD X (.List es pos) (eLst gs) := pe_imp (pe_lst h) fun σ H Q ⟨pp, ps, G, S, d, ps', c, s, e, k⟩ => by
  obtain ⟨ds, p1, e1, e⟩ := bindP_inv e
  obtain ⟨hf, e⟩ := ite_inv e
  cases e
  refine ⟨pp, ps, G, S, ds, ps', c, s, e1, fun vs G1 H1 g1 r1 => ⟨by rw [r1.length]; exact fits_size hf, fun p hp => ?_⟩⟩
  have gl : Go pp ps' [] G1 H1 (upd G1 p (.lst vs)) (upd H1 p (.lst vs)) := Go.lay g1.cf hp
  exact k _ _ _ (g1.trans gl) (.lst (.inl upd_same) (RvL.mono gl.gg _ _ r1))
def eOp (o : PyData → PyData → Option PyData) (ga gb : EG) : EG := fun S ps => bindP (ga S ps) fun x p => bindP (gb S p) fun y p' => (o x y).map fun d => (d, p')
theorem map_inv {α β : Type} {r : Option α} {f : α → β} {z : β} (h : r.map f = some z) : ∃ a, r = some a ∧ f a = z := by
  cases r with
  | none => cases h
  | some a => exact ⟨a, rfl, Option.some.inj h⟩
theorem tOp_D {o : PyData → PyData → Option PyData} {ga gb : EG} (σ : L2.St) (H : Hp) (Q : VK) (h : TD X.K (eOp o ga gb) σ H Q) : tOp (rD2 X.K o) (TD X.K ga) (TD X.K gb) σ H Q := by
  obtain ⟨pp, ps, G, S, d, ps', c, s, e, k⟩ := h
  obtain ⟨x, p1, e1, e⟩ := bindP_inv e
  obtain ⟨y, p2, e2, e⟩ := bindP_inv e
  obtain ⟨d', e3, e⟩ := map_inv e
  cases e
  exact ⟨pp, ps, G, S, x, p1, c, s, e1, fun v G1 H1 g1 r1 => ⟨pp, p1, G1, S, y, _, g1.cf, s.go g1, e2, fun w G2 H2 g2 r2 => ⟨pp, _, G2, x, y, d, g2.cf, Rv.mono g2.gg _ _ r1, r2, e3, fun z G3 H3 g3 r3 => k z G3 H3 ((g1.trans g2).trans g3) r3⟩⟩⟩
abbrev OpD (X : Cx) (f : Value → Value → Sem Value) (o : PyData → PyData → Option PyData) : Prop := OpR X f (rD2 X.K o)
theorem pd_op {a b : Expr} {op : Operator} {ga gb : EG} {pos : Pos} {o : PyData → PyData → Option PyData} (ho : OpD X (binaryOp op) o) (ha : PD X a ga) (hb : PD X b gb) : PD X (.BinOp a op b pos) (eOp o ga gb) :=
  pe_imp (pe_op ho ha hb) tOp_D
theorem pd_cmp {a b : Expr} {op : CmpOp} {ga gb : EG} {pos : Pos} {o : PyData → PyData → Option PyData} (ho : OpD X (compareOp op) o) (ha : PD X a ga) (hb : PD X b gb) (hm : behindInMarks op b = false) : PD X (.Compare a [op] [b] pos) (eOp o ga gb) :=
  pe_imp (pe_cmpR ho ha hb hm) tOp_D
theorem pd_ix {a b : Expr} {ga gb : EG} {pos : Pos} {o : PyData → PyData → Option PyData} (ho : IxR X (rD2 X.K o)) (hs : PlainIx b) (ha : PD X a ga) (hb : PD X b gb) : PD X (.Subscript a b pos) (eOp o ga gb) :=
  pe_imp (pe_ix ho ha hb hs) tOp_D
def eUn (o : PyData → Option PyData) (g : EG) : EG := fun S ps => bindP (g S ps) fun x p => (o x).map fun d => (d, p)
def asB (g : EG) : BG := fun S ps => match g S ps with
  | some (.bool b, p) => some (b, p)
  | _ => none
theorem asB_inv {g : EG} {S : Sd} {ps ps' : Pt} {b : Bool} (h : asB g S ps = some (b, ps')) : g S ps = some (.bool b, ps') := by
  unfold asB at h
  split at h
  · next b' p e =>
    cases h
    exact e
  · cases h
theorem pdt_val {e : Expr} {g : EG} (h : PD X e g) (he : ∀ whole, isTrue e X.env whole = (do let v ← whole; standAt e.pos; holding [v] (truthy v)) := by intro _; rfl) : PDT X e (asB g) :=
  pt_imp (pt_val h he) fun σ H Q ⟨pp, ps, G, S, b, ps', c, s, e, k⟩ => ⟨pp, ps, G, S, _, ps', c, s, asB_inv e, fun v G' H' g' r => ⟨b, rv_bl r, k G' H' g'⟩⟩
theorem pdt_cmp {a b : Expr} {op : CmpOp} {ga gb : EG} {pos : Pos} {o : PyData → PyData → Option PyData} (ho : OpD X (compareOp op) o) (ha : PD X a ga) (hb : PD X b gb) (hm : behindInMarks op b = false) : PDT X (.Compare a [op] [b] pos) (asB (eOp o ga gb)) :=
  pt_imp (pt_cmpR ho ha hb hm) fun σ H Q ⟨pp, ps, G, S, b, ps', c, s, e, k⟩ => tOp_D σ H _ ⟨pp, ps, G, S, _, ps', c, s, asB_inv e, fun v G' H' g' r => ⟨b, rv_bl r, k G' H' g'⟩⟩
def bNot (g : BG) : BG := fun S ps => bindP (g S ps) fun b p => some (!b, p)
def bAnd (g h : BG) : BG := fun S ps => bindP (g S ps) fun b p => if b then h S p else some (false, p)
def bOr (g h : BG) : BG := fun S ps => bindP (g S ps) fun b p => if b then some (true, p) else h S p
theorem pdt_not {a : Expr} {g : BG} {pos : Pos} (h : PDT X a g) : PDT X (.UnaryOp .Not a pos) (bNot g) := pt_imp (pt_not h) fun σ H Q ⟨pp, ps, G, S, b, ps', c, s, e, k⟩ => by
  obtain ⟨x, p1, e1, e⟩ := bindP_inv e
  cases e
  exact ⟨pp, ps, G, S, x, _, c, s, e1, k⟩
theorem pdw_and1 {a : Expr} {g : BG} {pos : Pos} (h : PDT X a g) : PDW X (.BoolOp .And [a] pos) g := pw_and1 h
theorem pdw_or1 {a : Expr} {g : BG} {pos : Pos} (h : PDT X a g) : PDW X (.BoolOp .Or [a] pos) g := pw_or1 h
theorem pdw_and {a b : Expr} {rest : List Expr} {g h : BG} {pos : Pos} (ha : PDT X a g) (hb : PDW X (.BoolOp .And (b :: rest) pos) h) : PDW X (.BoolOp .And (a :: b :: rest) pos) (bAnd g h) :=
  pw_imp (pw_and ha hb) fun σ H Q ⟨pp, ps, G, S, b, ps', c, s, e, k⟩ => by
    obtain ⟨x, p1, e1, e⟩ := bindP_inv e
    refine ⟨pp, ps, G, S, x, p1, c, s, e1, fun G1 H1 g1 => ?_⟩
    cases x with
    | true => exact ⟨pp, p1, G1, S, b, ps', g1.cf, s.go g1, e, fun G2 H2 g2 => k G2 H2 (g1.trans g2)⟩
    | false =>
      cases e
      exact k G1 H1 g1
theorem pdw_or {a b : Expr} {rest : List Expr} {g h : BG} {pos : Pos} (ha : PDT X a g) (hb : PDW X (.BoolOp .Or (b :: rest) pos) h) : PDW X (.BoolOp .Or (a :: b :: rest) pos) (bOr g h) :=
  pw_imp (pw_or ha hb) fun σ H Q ⟨pp, ps, G, S, b, ps', c, s, e, k⟩ => by
    obtain ⟨x, p1, e1, e⟩ := bindP_inv e
    refine ⟨pp, ps, G, S, x, p1, c, s, e1, fun G1 H1 g1 => ?_⟩
    cases x with
    | false => exact ⟨pp, p1, G1, S, b, ps', g1.cf, s.go g1, e, fun G2 H2 g2 => k G2 H2 (g1.trans g2)⟩
    | true =>
      cases e
      exact k G1 H1 g1
def eAndV (ga gb : EG) : EG := fun S ps => match ga S ps with
  | some (.bool true, p) => gb S p
  | some (.bool false, p) => some (.bool false, p)
  | _ => none
def eNotV (g : EG) : EG := fun S ps => match g S ps with
  | some (.bool b, p) => some (.bool (!b), p)
  | _ => none
theorem pd_one {op : BoolOp} {a : Expr} {g : EG} {pos : Pos} (h : PD X a g) : PD X (.BoolOp op [a] pos) g := pe_one h
theorem pd_and {a b : Expr} {rest : List Expr} {ga gb : EG} {pos : Pos} (ha : PD X a ga) (hb : PD X (.BoolOp .And (b :: rest) pos) gb) : PD X (.BoolOp .And (a :: b :: rest) pos) (eAndV ga gb) :=
  pe_imp (pe_and ha hb) fun σ H Q ⟨pp, ps, G, S, d, ps', c, s, e, k⟩ => by
    unfold eAndV at e
    split at e
    · next p e1 => exact ⟨pp, ps, G, S, _, p, c, s, e1, fun v G1 H1 g1 r1 => ⟨true, rv_bl r1, iteT ⟨pp, p, G1, S, d, ps', g1.cf, s.go g1, e, fun w G2 H2 g2 r2 => k w G2 H2 (g1.trans g2) r2⟩⟩⟩
    · next p e1 =>
      cases e
      exact ⟨pp, ps, G, S, _, _, c, s, e1, fun v G1 H1 g1 r1 => ⟨false, rv_bl r1, iteF (k _ G1 H1 g1 (.bl false))⟩⟩
    · cases e
theorem pd_not {a : Expr} {g : EG} {pos : Pos} (h : PD X a g) : PD X (.UnaryOp .Not a pos) (eNotV g) := pe_imp (pe_not h) fun σ H Q ⟨pp, ps, G, S, d, ps', c, s, e, k⟩ => by
  unfold eNotV at e
  split at e
  · next b p e1 =>
    cases e
    exact ⟨pp, ps, G, S, _, _, c, s, e1, fun v G1 H1 g1 r1 => ⟨b, rv_bl r1, k _ G1 H1 g1 (.bl _)⟩⟩
  · cases e
def eIf (t : BG) (ga gb : EG) : EG := fun S ps => bindP (t S ps) fun b p => if b then ga S p else gb S p
theorem pd_if {t a b : Expr} {gt : BG} {ga gb : EG} {pos : Pos} (ht : PDT X t gt) (ha : PD X a ga) (hb : PD X b gb) : PD X (.IfExp t a b pos) (eIf gt ga gb) :=
  pe_imp (pe_ifExp ht ha hb) fun σ H Q ⟨pp, ps, G, S, d, ps', c, s, e, k⟩ => by
    obtain ⟨x, p1, e1, e⟩ := bindP_inv e
    refine ⟨pp, ps, G, S, x, p1, c, s, e1, fun G1 H1 g1 => ?_⟩
    cases x with
    | true => exact iteT ⟨pp, p1, G1, S, d, ps', g1.cf, s.go g1, e, fun v G2 H2 g2 r2 => k v G2 H2 (g1.trans g2) r2⟩
    | false => exact iteF ⟨pp, p1, G1, S, d, ps', g1.cf, s.go g1, e, fun v G2 H2 g2 r2 => k v G2 H2 (g1.trans g2) r2⟩
def eCall (f : List PyData → Pt → Option (PyData × Pt)) (gs : AG) : EG := fun S ps => bindP (gs S ps) fun ds p => f ds p
def eCB (f : List PyData → Option PyData) (gs : AG) : EG := fun S ps => bindP (gs S ps) fun ds p => (f ds).map fun d => (d, p)
def spD (K : PySem.W.Frag) (n : Nat) (fn : List PyData → Pt → Option (PyData × Pt)) : Sp := fun vs H Q _ => ∃ (pp : PP) (ps : Pt) (G : Hp) (ds : List PyData) (d : PyData) (ps' : Pt), ds.length = n ∧ Cf pp ps G H ∧ RvL K pp G vs ds ∧ fn ds ps = some (d, ps') ∧
  ∀ v G' H', Go pp ps' [] G H G' H' → Rv K pp G' v d → Q v H'
structure Rm (k : Nat) (A : Around) : Prop where
  rm : Room k A
  gd : A.guards = some []
theorem Rm.mono {j k : Nat} {A : Around} (r : Rm k A) (h : j ≤ k) : Rm j A := ⟨r.rm.mono h, r.gd⟩
theorem Rm.un {k : Nat} {A : Around} (r : Rm k A) : A.units + 16 * k + 200 < cLine := r.rm.un
theorem Rm.dp {k : Nat} {A : Around} (r : Rm k A) : A.depth + 3 * k + 5 < recursionLimit := r.rm.dp
theorem Rm.hd {k : Nat} {A : Around} (r : Rm k A) : A.handled = none := r.rm.hd
theorem Rm.dpr {k : Nat} {A : Around} (r : Rm (k + 1) A) (env : Env) : Rm k (A.deeper env) := ⟨r.rm.deeper env, r.gd⟩
structure FnG (P : Program) (w : World) (K : PySem.W.Frag) (mg : Str → Option Value) (base : Heap) (k : Nat) (f : Addr) (fd : FuncData) (ps : List Str) (sp : Sp) : Prop where
  len : ∀ vs H Q E, sp vs H Q E → vs.length = ps.length
  go : ∀ (A : Around) (out : List Env) (s : Shared) (H : Hp) (as : Args) (us : List Value) (vs : List V) (Q : VK) (E : XK), Rm k A → Env0 P w K mg base A out s H → BindsTo s fd as (ps.zip us) → Vals vs us → sp vs H Q E → codeAny (model P w) A (.call (.ref f) as) (CR CX0 out P w H s Q E) s
theorem ce_end {Xc : Cx} {pins : List (Addr × Obj)} {σ : L2.St} {H : Hp} {s s' : Shared} {Q : VK} {E : XK} {r : Result} (J : Inv Xc pins σ H s) (h : CR CX0 Xc.stack Xc.prog Xc.w H s Q E r s') : ∃ u, r = .ok (.ret u) ∧ EP Xc pins σ Q u s' := by
  cases r with
  | error e => exact False.elim h
  | ok fl =>
    cases fl with
    | ret u => exact ⟨u, rfl, J.after h⟩
    | next => exact False.elim h
    | brk => exact False.elim h
    | cont => exact False.elim h
theorem call_g {k : Nat} {f : Addr} {fd : FuncData} {qs : List Str} {sp : Sp} (F : FnG X.prog X.w X.K X.mg X.base k f fd qs sp) (hr : Rm k X.A) (hb : Binds X.K fd qs []) {pins : List (Addr × Obj)} {σ : L2.St} {H : Hp} {s : Shared} {Q : VK} {us : List Value} {vs : List V} (J : Inv X pins σ H s) (rv : Vals vs us) (h : sp vs H Q E0) :
    wpAny (model X.prog X.w) X.A (call (.ref f) us) (EP X pins σ Q) X.xe s := by
  have hl : us.length = qs.length := by
    rw [← rv.length]
    exact F.len _ _ _ _ h
  have hbt := hb s us J.kIn (by simpa using hl)
  rw [List.append_nil] at hbt
  refine wpAny_call (codeAny_mono (F.go X.A X.stack s H ⟨us, []⟩ us vs Q E0 hr J.env0 hbt rv h) fun res s' hq => ?_)
  obtain ⟨u, rfl, hu⟩ := ce_end J hq
  exact hu
theorem pe_callG {k : Nat} {f : Addr} {fd : FuncData} {qs : List Str} {sp : Sp} {x : Str} {p pos : Pos} {e : Expr} {es : List Expr} {t : TA} (F : FnG X.prog X.w X.K X.mg X.base k f fd qs sp) (hr : Rm k X.A) (hg : Gl X x) (hm : X.mg x = some (.ref f)) (hk : PySem.W.keepIn X.K (.ref f) = true) (hb : Binds X.K fd qs []) (ha : PA X (e :: es) t)
    (hdb : (x == ("__debug__" : Str)) = false := by decide) (he : starEach (e :: es) X.env = (false, eval e X.env) :: starEach es X.env := by rfl) (hpl : (backTo pos (starEach es X.env)).any (·.1) = false := by rfl) :
    PE X (.Call (.Name x p) (e :: es) [] pos) (fun σ H Q => t σ H fun vs H1 => sp vs H1 Q E0) := by
  constructor
  intro pins s σ H Q J h
  apply wpAny_Call_Name_kw
  apply ld_glob J hg hm (hd := hdb)
  exact PySem.W.callWith_K (h₀ := X.base) J.ok.mod.kin hk (thn (ha.run pos pins s σ H _ J h) fun us s1 ⟨vs, H1, J1, rv, q⟩ => ⟨J1.kIn, call_g F hr hb J1 rv q⟩) he hpl
theorem pe_callG0 {k : Nat} {f : Addr} {fd : FuncData} {sp : Sp} {x : Str} {p pos : Pos} (F : FnG X.prog X.w X.K X.mg X.base k f fd [] sp) (hr : Rm k X.A) (hg : Gl X x) (hm : X.mg x = some (.ref f)) (hk : PySem.W.keepIn X.K (.ref f) = true) (hb : Binds X.K fd [] [])
    (hdb : (x == ("__debug__" : Str)) = false := by decide) : PE X (.Call (.Name x p) [] [] pos) (fun σ H Q => sp [] H Q E0) := by
  constructor
  intro pins s σ H Q J h
  apply wpAny_Call_Name_kw
  apply ld_glob J hg hm (hd := hdb)
  exact PySem.W.callWith_K0 J.kIn hk (call_g F hr hb J .nil h)
def permL {α : Type} (is : List Nat) (xs : List α) : List α := is.filterMap fun i => xs[i]?
theorem vals_get : ∀ {vs : List V} {us : List Value} (i : Nat), Vals vs us → (vs[i]? = none ∧ us[i]? = none) ∨ ∃ v u, vs[i]? = some v ∧ us[i]? = some u ∧ RelV v u
  | _, _, i, .nil => .inl ⟨by simp, by simp⟩
  | _, _, 0, .cons r _ => .inr ⟨_, _, rfl, rfl, r⟩
  | _, _, i + 1, .cons _ t => by
    simp only [List.getElem?_cons_succ]
    exact vals_get i t
theorem vals_perm {vs : List V} {us : List Value} (r : Vals vs us) : ∀ is : List Nat, Vals (permL is vs) (permL is us)
  | [] => .nil
  | i :: is => by
    rcases vals_get i r with ⟨e1, e2⟩ | ⟨v, u, e1, e2, h⟩
    · have h1 : permL (i :: is) vs = permL is vs := by simp [permL, e1]
      have h2 : permL (i :: is) us = permL is us := by simp [permL, e2]
      rw [h1, h2]
      exact vals_perm r is
    · have h1 : permL (i :: is) vs = v :: permL is vs := by simp [permL, e1]
      have h2 : permL (i :: is) us = u :: permL is us := by simp [permL, e2]
      rw [h1, h2]
      exact .cons h (vals_perm r is)
theorem pe_callGK {k : Nat} {f : Addr} {fd : FuncData} {qs ks : List Str} {is : List Nat} {sp : Sp} {x : Str} {p pos : Pos} {kws : List Keyword} {tk : TA} (F : FnG X.prog X.w X.K X.mg X.base k f fd qs sp) (hr : Rm k X.A) (hg : Gl X x) (hm : X.mg x = some (.ref f)) (hk : PySem.W.keepIn X.K (.ref f) = true)
    (hb : ∀ (s : Shared) (ws : List Value), ws.length = ks.length → BindsTo s fd ⟨[], ks.zip ws⟩ (qs.zip (permL is ws))) (hkw : PK X kws tk) (hlen : ∀ σ H Q, tk σ H Q → tk σ H fun zs H1 => zs.length = ks.length ∧ Q zs H1) (hall : (backToKw pos (keywordEach kws X.env)).all (·.1.isSome) = true := by rfl) (hks : (backToKw pos (keywordEach kws X.env)).filterMap (·.1) = ks := by rfl)
    (hdb : (x == ("__debug__" : Str)) = false := by decide) (hpl : ((backTo pos (starEach [] X.env)).any (·.1) || (backToKw pos (keywordEach kws X.env)).any (·.1.isNone)) = false := by rfl) :
    PE X (.Call (.Name x p) [] kws pos) (fun σ H Q => tk σ H fun zs H1 => sp (permL is zs) H1 Q E0) := by
  constructor
  intro pins s σ H Q J h
  apply wpAny_Call_Name_kw
  apply ld_glob J hg hm (hd := hdb)
  refine PySem.W.callWith_KW0 (h₀ := X.base) J.ok.mod.kin hk hall (thn (hkw.run pos pins s σ H _ J (hlen _ _ _ h)) fun ws s1 ⟨zs, H1, J1, rz, hl, q⟩ => ⟨J1.kIn, ?_⟩) hpl
  rw [hks]
  have hw : ws.length = ks.length := by rw [← rz.length]; exact hl
  refine wpAny_call (codeAny_mono (F.go X.A X.stack s1 H1 ⟨[], ks.zip ws⟩ (permL is ws) (permL is zs) Q E0 hr J1.env0 (hb s1 ws hw) (vals_perm rz is) q) fun res s' hq => ?_)
  obtain ⟨u, rfl, hu⟩ := ce_end J1 hq
  exact hu
theorem of_g {P : Program} {w : World} {K : PySem.W.Frag} {mg : Str → Option Value} {base : Heap} {k : Nat} {f : Addr} {name qual : Str} {params : Arguments} {body : List Stmt} {scope : Scope} {dV kV doc pm cdv ct oc : Value} {an od : Option Addr} {osl : Array (Option Value)} {N ps : List Str} {sp : Sp}
    (lk : K.lookup f = some ⟨oc, od, .func (PySem.W.fnOf name qual params body scope dV kV doc pm an cdv ct), osl⟩) (hcd : PySem.W.codeIn K cdv qual = true) (S : FnScope N ps scope) (len : ∀ vs H Q E, sp vs H Q E → vs.length = ps.length)
    (hbd : ∀ (A : Around) (out : List Env) (s : Shared) (H : Hp) (vs : List V) (Q : VK) (E : XK), Rm k (A.deeper (PyProof.Rows.envOfC qual scope s.heap.objs.size f cdv)) → sp vs H Q E → ∃ t, PSs (cxOf CX0 P w K mg base N qual scope f cdv A out s H E).nox body t ∧ t { nx := fun _ H' => Q .non H', rt := Q } (start N vs) H) :
    FnG P w K mg base (k + 1) f (PySem.W.fnOf name qual params body scope dV kV doc pm an cdv ct) ps sp := by
  refine ⟨len, ?_⟩
  intro A out s H as us vs Q E hr e0 hb rv hsp
  have hin : K.In s.heap := e0.mod.kin.keeps fun b o z => (e0.bs b o z).1
  have hlim : s.heap.NoLimit := e0.mod.nolimit.keeps fun b o z => (e0.bs b o z).1
  have kd : ∀ y ∈ ps.zip us, scope.names.lookup y.1 = some .local ∨ (scope.names.lookup y.1 = some .cell ∧ ((cellsFrom (s.heap.objs.size + 1) scope.names []).lookup y.1).isSome = true) := by
    rintro ⟨n, v⟩ hy
    rcases S.par n (List.of_mem_zip hy).1 with z | z
    · exact .inl z
    · exact .inr ⟨z, PySem.W.cellsFrom_some _ _ _ (.inl z)⟩
  apply codeAny_call_function hr.rm.depth (hin _ _ lk) rfl S.co S.gen rfl (PySem.W.codeRec_of hin hcd)
  apply hb
  apply wpAny_newFunctionEnv_cells S.kind kd
  intro env henv s1 xs
  subst henv
  refine ⟨hlim.keeps xs.toInCall.keep, codeAny_func ?_⟩
  obtain ⟨t, ht, hq⟩ := hbd A out s H vs Q E (hr.dpr _) hsp
  have J := inv_start (CX := CX0) (E := E) (N := N) S hr.hd e0 (len _ _ _ _ hsp) rv xs
  refine wpAny_mono (ht.nox.run [] s1 (start N vs) H _ J hq) (fun fl s' hs => ?_) fun e s' hs => hs
  cases fl with
  | ret u =>
    obtain ⟨v, σ1, H1, J1, r1, q1⟩ := hs
    exact ⟨v, H1, J1.os, J1.bare, J1.base, J1.hok, r1, q1⟩
  | next =>
    obtain ⟨σ1, H1, J1, q1⟩ := hs
    exact ⟨.non, H1, J1.os, J1.bare, J1.base, J1.hok, rfl, q1⟩
  | brk =>
    obtain ⟨_, _, _, q1⟩ := hs
    exact False.elim q1
  | cont =>
    obtain ⟨_, _, _, q1⟩ := hs
    exact False.elim q1
theorem ok_g {P : Program} {w : World} {K : PySem.W.Frag} {mg : Str → Option Value} {base : Heap} {x qual : Str} {st : Stmt} {f : Addr} {fd : FuncData} {N ps : List Str} {k : Nat} {sp : Sp} (F : Fun K x qual st f fd) (S : FnScope N ps (defScope st)) (len : ∀ vs H Q E, sp vs H Q E → vs.length = ps.length)
    (hbd : ∀ (cdv : Value) (A : Around) (out : List Env) (s : Shared) (H : Hp) (vs : List V) (Q : VK) (E : XK), Rm k (A.deeper (PyProof.Rows.envOfC qual (defScope st) s.heap.objs.size f cdv)) → sp vs H Q E →
      ∃ t, PSs (cxOf CX0 P w K mg base N qual (defScope st) f cdv A out s H E).nox (defBody st) t ∧ t { nx := fun _ H' => Q .non H', rt := Q } (start N vs) H) : FnG P w K mg base (k + 1) f fd ps sp := by
  obtain ⟨oc, od, kV, doc, pm, an, cdv, ct, osl, rfl, lk, hcd⟩ := F.ex
  exact of_g lk hcd S len fun A out s H vs Q E hr hsp => hbd cdv A out s H vs Q E hr hsp
abbrev FnD (P : Program) (w : World) (K : PySem.W.Frag) (mg : Str → Option Value) (base : Heap) (k : Nat) (f : Addr) (fd : FuncData) (ps : List Str) (fn : List PyData → Pt → Option (PyData × Pt)) : Prop := FnG P w K mg base k f fd ps (spD K ps.length fn)
theorem pd_call {k : Nat} {f : Addr} {fd : FuncData} {qs : List Str} {fn : List PyData → Pt → Option (PyData × Pt)} {x : Str} {p pos : Pos} {e : Expr} {es : List Expr} {gs : AG} (F : FnD X.prog X.w X.K X.mg X.base k f fd qs fn) (hr : Rm k X.A) (hg : Gl X x) (hm : X.mg x = some (.ref f))
    (hk : PySem.W.keepIn X.K (.ref f) = true) (hb : Binds X.K fd qs []) (ha : PDA X (e :: es) gs) (hl : ∀ S ps ds p, gs S ps = some (ds, p) → ds.length = qs.length) (hdb : (x == ("__debug__" : Str)) = false := by decide)
    (he : starEach (e :: es) X.env = (false, eval e X.env) :: starEach es X.env := by rfl) (hpl : (backTo pos (starEach es X.env)).any (·.1) = false := by rfl) : PD X (.Call (.Name x p) (e :: es) [] pos) (eCall fn gs) :=
  pe_imp (pe_callG F hr hg hm hk hb ha hdb he hpl) fun σ H Q ⟨pp, ps, G, S, d, ps', c, s, e, k⟩ => by
    obtain ⟨ds, p1, e1, e⟩ := bindP_inv e
    refine ⟨pp, ps, G, S, ds, p1, c, s, e1, fun vs G1 H1 g1 r1 => ?_⟩
    exact ⟨pp, p1, G1, ds, d, ps', hl _ _ _ _ e1, g1.cf, r1, e, fun v G2 H2 g2 r2 => k v G2 H2 (g1.trans g2) r2⟩
theorem tCB_D {o : List PyData → Option PyData} {gs : AG} (σ : L2.St) (H : Hp) (Q : VK) (h : TD X.K (eCB o gs) σ H Q) : tCB (rDL X.K o) (TDA X.K gs) σ H Q := by
  obtain ⟨pp, ps, G, S, d, ps', c, s, e, k⟩ := h
  obtain ⟨ds, p1, e1, e⟩ := bindP_inv e
  obtain ⟨d', e2, e⟩ := map_inv e
  cases e
  exact ⟨pp, ps, G, S, ds, _, c, s, e1, fun vs G1 H1 g1 r1 => ⟨pp, _, G1, ds, d, g1.cf, r1, e2, fun v G2 H2 g2 r2 => k v G2 H2 (g1.trans g2) r2⟩⟩
theorem pd_callB {id : String} {x : Str} {p pos : Pos} {e : Expr} {es : List Expr} {gs : AG} {o : List PyData → Option PyData} (hc : CallR X (.builtin id) (rDL X.K o)) (hg : Gl X x) (hm : X.mg x = none) (hv : bootBuiltins x = some (.builtin id)) (ha : PDA X (e :: es) gs)
    (hn : x ≠ "__name__" := by decide) (hdb : (x == ("__debug__" : Str)) = false := by decide) (he : starEach (e :: es) X.env = (false, eval e X.env) :: starEach es X.env := by rfl) (hpl : (backTo pos (starEach es X.env)).any (·.1) = false := by rfl) :
    PD X (.Call (.Name x p) (e :: es) [] pos) (eCB o gs) := pe_imp (pe_callB hc hg hm hv ha hn hdb he hpl) tCB_D
theorem pd_callTy {T : String} {x : Str} {p pos : Pos} {e : Expr} {es : List Expr} {gs : AG} {o : List PyData → Option PyData} (hc : CallR X (.type T) (rDL X.K o)) (hg : Gl X x) (hm : X.mg x = none) (hv : bootBuiltins x = some (.type T)) (ha : PDA X (e :: es) gs)
    (hn : x ≠ "__name__" := by decide) (hdb : (x == ("__debug__" : Str)) = false := by decide) (he : starEach (e :: es) X.env = (false, eval e X.env) :: starEach es X.env := by rfl) (hpl : (backTo pos (starEach es X.env)).any (·.1) = false := by rfl) :
    PD X (.Call (.Name x p) (e :: es) [] pos) (eCB o gs) := pe_imp (pe_callTy hc hg hm hv ha hn hdb he hpl) tCB_D
end
end DL
set_option Elab.async false
set_option linter.all false
set_option maxRecDepth 100000
namespace DL
open PySem L2
variable [TBL]
section
variable {X : Cx}
theorem cf_l {pp : PP} {ps : Pt} {G H : Hp} {K : PySem.W.Frag} {a : Addr} {xs : List V} (c : Cf pp ps G H) (h : Rd G a (.lst xs)) : SqL K H a xs := .inl (same_l c.ex h)
theorem cf_t {pp : PP} {ps : Pt} {G H : Hp} {K : PySem.W.Frag} {a : Addr} {xs : List V} (c : Cf pp ps G H) (h : SqF K G a xs) : SqT K H a xs := same_t c.ex h.t
def onI2 (P : Int → Int → Bool) (f : Int → Int → PyData) : PyData → PyData → Option PyData
  | .int i, .int j => if P i j then some (f i j) else none
  | _, _ => none
theorem onI2_inv {P : Int → Int → Bool} {f : Int → Int → PyData} {x y d : PyData} (h : onI2 P f x y = some d) : ∃ i j, x = .int i ∧ y = .int j ∧ P i j = true ∧ f i j = d := by
  unfold onI2 at h
  split at h
  · next i j =>
    obtain ⟨h1, h2⟩ := ite_inv h
    exact ⟨i, j, rfl, rfl, h1, h2⟩
  · cases h
theorem opd_int {f : Value → Value → Sem Value} {C : Int → Int → Prop} {P : Int → Int → Bool} {F : Int → Int → Int} (h : OpR X f (rI C fun i j => .int (F i j))) (hc : ∀ i j, P i j = true → C i j) : OpD X f (onI2 P fun i j => .int (F i j)) := by
  intro pins s σ H x y v u Q I rx ry ⟨pp, ps, G, dx, dy, d, c, r1, r2, e, k⟩
  obtain ⟨i, j, rfl, rfl, hp, rfl⟩ := onI2_inv e
  cases r1
  cases r2
  exact h pins s σ H _ _ v u Q I rx ry ⟨i, j, rfl, rfl, hc i j hp, k _ G H (Go.refl c) (.int _)⟩
theorem opd_int0 {f : Value → Value → Sem Value} {F : Int → Int → Int} (h : OpR X f (rI0 fun i j => .int (F i j))) : OpD X f (onI2 (fun _ _ => true) fun i j => .int (F i j)) := by
  intro pins s σ H x y v u Q I rx ry ⟨pp, ps, G, dx, dy, d, c, r1, r2, e, k⟩
  obtain ⟨i, j, rfl, rfl, hp, rfl⟩ := onI2_inv e
  cases r1
  cases r2
  exact h pins s σ H _ _ v u Q I rx ry ⟨i, j, rfl, rfl, k _ G H (Go.refl c) (.int _)⟩
def orD (o o' : PyData → PyData → Option PyData) (x y : PyData) : Option PyData := match o x y with
  | some d => some d
  | none => o' x y
theorem opd_or {f : Value → Value → Sem Value} {o o' : PyData → PyData → Option PyData} (h : OpD X f o) (h' : OpD X f o') : OpD X f (orD o o') := by
  intro pins s σ H x y v u Q I rx ry ⟨pp, ps, G, dx, dy, d, c, r1, r2, e, k⟩
  unfold orD at e
  split at e
  · next d' e1 =>
    cases e
    exact h pins s σ H x y v u Q I rx ry ⟨pp, ps, G, dx, dy, d, c, r1, r2, e1, k⟩
  · exact h' pins s σ H x y v u Q I rx ry ⟨pp, ps, G, dx, dy, d, c, r1, r2, e, k⟩
def addI : PyData → PyData → Option PyData := onI2 (fun _ _ => true) fun i j => .int (i + j)
def subI : PyData → PyData → Option PyData := onI2 (fun _ _ => true) fun i j => .int (i - j)
def mulI : PyData → PyData → Option PyData := onI2 (fun i j => decide (i.natAbs.log2 + j.natAbs.log2 < 1000000)) fun i j => .int (i * j)
def modI : PyData → PyData → Option PyData := onI2 (fun _ j => decide (0 < j)) fun i j => .int (i % j)
def fdivI : PyData → PyData → Option PyData := onI2 (fun _ j => decide (0 < j) && decide (j.natAbs.log2 < 9000)) fun i j => .int (i / j)
theorem opd_addI : OpD X (binaryOp .Add) addI := opd_int0 op_add
theorem opd_sub : OpD X (binaryOp .Sub) subI := opd_int0 op_sub
theorem opd_mul : OpD X (binaryOp .Mult) mulI := opd_int op_mulW fun i j h => (of_decide_eq_true h : i.natAbs.log2 + j.natAbs.log2 < 1000000)
theorem opd_mod : OpD X (binaryOp .Mod) modI := opd_int op_mod fun _ _ h => of_decide_eq_true h
theorem opd_fdiv : OpD X (binaryOp .FloorDiv) fdivI := opd_int op_fdivW fun _ _ h => by
  rw [Bool.and_eq_true] at h
  exact ⟨of_decide_eq_true h.1, of_decide_eq_true h.2⟩
def addS : PyData → PyData → Option PyData
  | .str x, .str y => if decide (x.length + y.length ≤ 16777216) then some (.str (x ++ y)) else none
  | _, _ => none
def addL : PyData → PyData → Option PyData
  | .list x, .list y => if decide (x.length + y.length ≤ 16777216) then some (.list (x ++ y)) else none
  | _, _ => none
def addT : PyData → PyData → Option PyData
  | .tuple x, .tuple y => if decide (x.length + y.length ≤ 16777216) then some (.tuple (x ++ y)) else none
  | _, _ => none
theorem opd_addS : OpD X (binaryOp .Add) addS := by
  intro pins s σ H x y v u Q I rx ry ⟨pp, ps, G, dx, dy, d, c, r1, r2, e, k⟩
  unfold addS at e
  split at e
  · next a b =>
    obtain ⟨h1, rfl⟩ := ite_inv e
    cases r1
    cases r2
    exact op_add_str pins s σ H _ _ v u Q I rx ry ⟨a, b, rfl, rfl, by rw [sizeLine_eq]; exact of_decide_eq_true h1, k _ G H (Go.refl c) (.str _)⟩
  · cases e
theorem opd_addT : OpD X (binaryOp .Add) addT := by
  intro pins s σ H x y v u Q I rx ry ⟨pp, ps, G, dx, dy, d, c, r1, r2, e, k⟩
  unfold addT at e
  split at e
  · next a b =>
    obtain ⟨h1, rfl⟩ := ite_inv e
    obtain ⟨p, xs, rfl, hp, ha⟩ := rv_tup r1
    obtain ⟨q, ys, rfl, hq, hb⟩ := rv_tup r2
    have hx := ha.length
    have hy := hb.length
    refine op_catF pins s σ H _ _ v u Q I rx ry ⟨p, q, xs, ys, rfl, rfl, cf_t c hp, cf_t c hq, ?_, fun e0 => ?_, fun _ e0 => ?_, fun _ _ p' o hp' hd => ?_⟩
    · rw [hx, hy, sizeLine_eq]
      exact of_decide_eq_true h1
    · subst e0
      cases ha
      exact k _ G H (Go.refl c) (.tup hq hb)
    · subst e0
      cases hb
      rw [List.append_nil] at k
      exact k _ G H (Go.refl c) (.tup hp ha)
    · have gl : Go pp ps [] G H (upd G p' (.frz o (.tup (xs ++ ys)))) (upd H p' (.frz o (.tup (xs ++ ys)))) := Go.lay c hp'
      exact k _ _ _ gl (.tup (.inl ⟨o, upd_same, hd⟩) (RvL.mono gl.gg _ _ (ha.app hb)))
  · cases e
theorem opd_addL : OpD X (binaryOp .Add) addL := by
  intro pins s σ H x y v u Q I rx ry ⟨pp, ps, G, dx, dy, d, c, r1, r2, e, k⟩
  unfold addL at e
  split at e
  · next a b =>
    obtain ⟨h1, rfl⟩ := ite_inv e
    obtain ⟨p, xs, rfl, hp, ha⟩ := rv_lst r1
    obtain ⟨q, ys, rfl, hq, hb⟩ := rv_lst r2
    cases rx
    cases ry
    obtain ⟨z, its, n, r, e1⟩ := (same_l c.ex hp).ok I.hok
    obtain ⟨z2, its2, n2, r2, e2⟩ := (same_l c.ex hq).ok I.hok
    have hl := r.length
    have hl2 := r2.length
    have hx := ha.length
    have hy := hb.length
    have hz : its.length + its2.length ≤ sizeLine := by
      rw [← hl, ← hl2, hx, hy, sizeLine_eq]
      exact of_decide_eq_true h1
    refine PySem.P.add_list e1 e2 ?_ (by rw [List.size_toArray, List.size_toArray]; exact hz)
    have ea : its.toArray ++ its2.toArray = (its ++ its2).toArray := by simp
    rw [ea]
    have gl : Go pp ps [] G H (upd G _ (.lst (xs ++ ys))) (upd H _ (.lst (xs ++ ys))) := Go.lay c I.fresh
    exact ⟨.ref _, _, I.lnew (t' := s.toks) (r.append r2) (by rw [List.length_append, hl, hl2]; exact hz), rfl, k _ _ _ gl (.lst (.inl upd_same) (RvL.mono gl.gg _ _ (ha.app hb)))⟩
  · cases e
def addD : PyData → PyData → Option PyData := orD addI (orD addS (orD addL addT))
theorem opd_add : OpD X (binaryOp .Add) addD := opd_or opd_addI (opd_or opd_addS (opd_or opd_addL opd_addT))
def cmpI (P : Int → Int → Bool) : PyData → PyData → Option PyData := onI2 (fun _ _ => true) fun i j => .bool (P i j)
theorem opd_cmpI {op : CmpOp} {P : Int → Int → Bool} (rule : ∀ (i j : Int) (t u : Tok) (Q : Value → Shared → Prop) (s : Shared), Q (.bool (P i j)) s → wpAny (model X.prog X.w) X.A (compareOp op (.int i t) (.int j u)) Q X.xe s) : OpD X (compareOp op) (cmpI P) := by
  intro pins s σ H x y v u Q I rx ry ⟨pp, ps, G, dx, dy, d, c, r1, r2, e, k⟩
  obtain ⟨i, j, rfl, rfl, hp, rfl⟩ := onI2_inv e
  cases r1
  cases r2
  obtain ⟨t, rfl⟩ := rx
  obtain ⟨t', rfl⟩ := ry
  exact rule i j t t' _ s ⟨.bl _, H, I, rfl, k _ G H (Go.refl c) (.bl _)⟩
def ltI := cmpI fun i j => decide (i < j)
def leI := cmpI fun i j => decide (i ≤ j)
def gtI := cmpI fun i j => decide (j < i)
def geI := cmpI fun i j => decide (j ≤ i)
theorem opd_ltI : OpD X (compareOp .Lt) ltI := opd_cmpI fun _ _ _ _ _ _ h => PyProof.Rows.lt_int h
theorem opd_leI : OpD X (compareOp .LtE) leI := opd_cmpI fun _ _ _ _ _ _ h => PyProof.Rows.le_int h
theorem opd_gtI : OpD X (compareOp .Gt) gtI := opd_cmpI fun _ _ _ _ _ _ h => PyProof.Rows.gt_int h
theorem opd_geI : OpD X (compareOp .GtE) geI := opd_cmpI fun _ _ _ _ _ _ h => PyProof.Rows.ge_int h
def eqD0 (x y : PyData) : Option PyData := if SeqAt.shaped x && SeqAt.shaped y then some (.bool (PyData.eqv x y)) else none
def neD0 (x y : PyData) : Option PyData := if SeqAt.shaped x && SeqAt.shaped y then some (.bool (!PyData.eqv x y)) else none
theorem opd_eq0 (hu : X.A.units + 64 < cLine) : OpD X (compareOp .Eq) eqD0 := by
  intro pins s σ H x y v u Q I rx ry ⟨pp, ps, G, dx, dy, d, c, r1, r2, e, k⟩
  obtain ⟨h1, rfl⟩ := ite_inv e
  rw [Bool.and_eq_true] at h1
  exact op_eqD hu pins s σ H x y v u Q I rx ry ⟨dx, dy, Rv.dp c.ex _ _ r1 (SeqAt.canLay_of_shaped h1.1), Rv.dp c.ex _ _ r2 (SeqAt.canLay_of_shaped h1.2), h1.1, h1.2, k _ G H (Go.refl c) (.bl _)⟩
theorem opd_ne0 (hu : X.A.units + 64 < cLine) : OpD X (compareOp .NotEq) neD0 := by
  intro pins s σ H x y v u Q I rx ry ⟨pp, ps, G, dx, dy, d, c, r1, r2, e, k⟩
  obtain ⟨h1, rfl⟩ := ite_inv e
  rw [Bool.and_eq_true] at h1
  exact op_neD hu pins s σ H x y v u Q I rx ry ⟨dx, dy, Rv.dp c.ex _ _ r1 (SeqAt.canLay_of_shaped h1.1), Rv.dp c.ex _ _ r2 (SeqAt.canLay_of_shaped h1.2), h1.1, h1.2, k _ G H (Go.refl c) (.bl _)⟩
def eqS : PyData → PyData → Option PyData
  | .str a, .str b => some (.bool (decide (a = b)))
  | _, _ => none
def neS : PyData → PyData → Option PyData
  | .str a, .str b => some (.bool (!decide (a = b)))
  | _, _ => none
theorem opd_eqS : OpD X (compareOp .Eq) eqS := by
  intro pins s σ H x y v u Q I rx ry ⟨pp, ps, G, dx, dy, d, c, r1, r2, e, k⟩
  unfold eqS at e
  split at e
  · next a b =>
    cases e
    cases r1
    cases r2
    refine op_eq pins s σ H _ _ v u Q I rx ry ⟨rfl, ?_⟩
    have := k (.bl (decide (a = b))) G H (Go.refl c) (.bl _)
    rw [show decide (V.str a = V.str b) = decide (a = b) by simp]
    exact this
  · cases e
theorem opd_neS : OpD X (compareOp .NotEq) neS := by
  intro pins s σ H x y v u Q I rx ry ⟨pp, ps, G, dx, dy, d, c, r1, r2, e, k⟩
  unfold neS at e
  split at e
  · next a b =>
    cases e
    cases r1
    cases r2
    refine op_ne pins s σ H _ _ v u Q I rx ry ⟨rfl, ?_⟩
    have := k (.bl (!decide (a = b))) G H (Go.refl c) (.bl _)
    rw [show decide (V.str a = V.str b) = decide (a = b) by simp]
    exact this
  · cases e
def eqD : PyData → PyData → Option PyData := orD eqS eqD0
def neD : PyData → PyData → Option PyData := orD neS neD0
theorem opd_eq (hu : X.A.units + 64 < cLine) : OpD X (compareOp .Eq) eqD := opd_or opd_eqS (opd_eq0 hu)
theorem opd_ne (hu : X.A.units + 64 < cLine) : OpD X (compareOp .NotEq) neD := opd_or opd_neS (opd_ne0 hu)
def items : PyData → Option (List PyData)
  | .list ds => some ds
  | .tuple ds => some ds
  | _ => none
def inD (neg : Bool) (x y : PyData) : Option PyData := match items y with
  | some ds => if SeqAt.shaped x && SeqAt.shaped y then some (.bool (if neg then !ds.any (fun z => PyData.eqv z x) else ds.any fun z => PyData.eqv z x)) else none
  | none => none
theorem inD_inv {neg : Bool} {x y d : PyData} (h : inD neg x y = some d) : ∃ ds, (y = .list ds ∨ y = .tuple ds) ∧ SeqAt.shaped x = true ∧ SeqAt.shaped y = true ∧ d = .bool (if neg then !ds.any (fun z => PyData.eqv z x) else ds.any fun z => PyData.eqv z x) := by
  unfold inD at h
  split at h
  · next ds e =>
    obtain ⟨h1, rfl⟩ := ite_inv h
    rw [Bool.and_eq_true] at h1
    refine ⟨ds, ?_, h1.1, h1.2, rfl⟩
    cases y with
    | list l => cases e; exact .inl rfl
    | tuple l => cases e; exact .inr rfl
    | _ => cases e
  · cases h
theorem opd_in (hu : X.A.units + 65 < cLine) : OpD X (compareOp .In) (inD false) := by
  intro pins s σ H x y v u Q I rx ry ⟨pp, ps, G, dx, dy, d, c, r1, r2, e, k⟩
  obtain ⟨ds, hy, h1, h2, rfl⟩ := inD_inv e
  have q := k _ G H (Go.refl c) (.bl _)
  have p1 := Rv.dp c.ex _ _ r1 (SeqAt.canLay_of_shaped h1)
  have p2 := Rv.dp c.ex _ _ r2 (SeqAt.canLay_of_shaped h2)
  obtain ⟨as, q1⟩ := Dp.reads I dx x v p1 rx
  obtain ⟨bs, q2⟩ := Dp.reads I dy y u p2 ry
  rcases hy with rfl | rfl
  · exact SeqAt.in_list_reads q2 q1 (SeqAt.canLay_of_shaped h2) (SeqAt.canLay_of_shaped h1) (PyProof.Rows.room_in_shaped h1 hu) ⟨.bl _, H, I, rfl, q⟩
  · exact SeqAt.in_tuple_reads q2 q1 (SeqAt.canLay_of_shaped h2) (SeqAt.canLay_of_shaped h1) (PyProof.Rows.room_in_shaped h1 hu) ⟨.bl _, H, I, rfl, q⟩
theorem opd_notIn (hu : X.A.units + 65 < cLine) : OpD X (compareOp .NotIn) (inD true) := by
  intro pins s σ H x y v u Q I rx ry ⟨pp, ps, G, dx, dy, d, c, r1, r2, e, k⟩
  obtain ⟨ds, hy, h1, h2, rfl⟩ := inD_inv e
  have q := k _ G H (Go.refl c) (.bl _)
  have p1 := Rv.dp c.ex _ _ r1 (SeqAt.canLay_of_shaped h1)
  have p2 := Rv.dp c.ex _ _ r2 (SeqAt.canLay_of_shaped h2)
  obtain ⟨as, q1⟩ := Dp.reads I dx x v p1 rx
  obtain ⟨bs, q2⟩ := Dp.reads I dy y u p2 ry
  rcases hy with rfl | rfl
  · exact SeqAt.notIn_list_reads q2 q1 (SeqAt.canLay_of_shaped h2) (SeqAt.canLay_of_shaped h1) (PyProof.Rows.room_in_shaped h1 hu) ⟨.bl _, H, I, rfl, q⟩
  · exact SeqAt.notIn_tuple_reads q2 q1 (SeqAt.canLay_of_shaped h2) (SeqAt.canLay_of_shaped h1) (PyProof.Rows.room_in_shaped h1 hu) ⟨.bl _, H, I, rfl, q⟩
def ixD : PyData → PyData → Option PyData
  | .list ds, .int i => atI ds i
  | .tuple ds, .int i => atI ds i
  | .str z, .int i => if decide (z.length ≤ 16777216) then (atI z.cps.toList i).map fun c => .str ⟨#[c]⟩ else none
  | _, _ => none
theorem atI_rv {pp : PP} {G : Hp} {xs : List V} {ds : List PyData} {i : Int} {d : PyData} (h : RvL X.K pp G xs ds) (e : atI ds i = some d) : ∃ v, atI xs i = some v ∧ Rv X.K pp G v d := by
  unfold atI at e ⊢
  rw [h.length]
  cases q : ixN ds.length i with
  | none =>
    rw [q] at e
    cases e
  | some j =>
    rw [q] at e
    exact h.get e
theorem ixd : IxR X (rD2 X.K ixD) := by
  intro ea eb pins s σ H x y v u Q I rx ry ⟨pp, ps, G, dx, dy, d, c, r1, r2, e, k⟩ hsub
  unfold ixD at e
  split at e
  · next ds i =>
    obtain ⟨p, xs, rfl, hp, ha⟩ := rv_lst r1
    cases r2
    obtain ⟨z, hz, rz⟩ := atI_rv ha e
    exact ix_seq ea eb pins s σ H _ _ v u Q I rx ry (.inl ⟨p, xs, i, z, rfl, rfl, cf_l c hp, hz, k _ G H (Go.refl c) rz⟩) hsub
  · next ds i =>
    obtain ⟨p, xs, rfl, hp, ha⟩ := rv_tup r1
    cases r2
    obtain ⟨z, hz, rz⟩ := atI_rv ha e
    exact ix_seq ea eb pins s σ H _ _ v u Q I rx ry (.inr (.inl ⟨p, xs, i, z, rfl, rfl, cf_t c hp, hz, k _ G H (Go.refl c) rz⟩)) hsub
  · next z i =>
    split at e
    · next hl =>
      obtain ⟨ch, h1, rfl⟩ := map_inv e
      cases r1
      cases r2
      exact ix_seq ea eb pins s σ H _ _ v u Q I rx ry (.inr (.inr ⟨z, i, ch, rfl, rfl, by rw [sizeLine_eq]; exact of_decide_eq_true hl, h1, k _ G H (Go.refl c) (.str _)⟩)) hsub
    · cases e
  · cases e
def one (f : PyData → Option PyData) : List PyData → Option PyData
  | [x] => f x
  | _ => none
theorem one_inv {f : PyData → Option PyData} {xs : List PyData} {d : PyData} (h : one f xs = some d) : ∃ x, xs = [x] ∧ f x = some d := by
  unfold one at h
  split at h
  · exact ⟨_, rfl, h⟩
  · cases h
theorem rvl_one {K : PySem.W.Frag} {pp : PP} {G : Hp} {vs : List V} {x : PyData} (h : RvL K pp G vs [x]) : ∃ v, vs = [v] ∧ Rv K pp G v x := by
  cases h with
  | cons a b =>
    cases b
    exact ⟨_, rfl, a⟩
theorem rvl_two {K : PySem.W.Frag} {pp : PP} {G : Hp} {vs : List V} {x y : PyData} (h : RvL K pp G vs [x, y]) : ∃ v w, vs = [v, w] ∧ Rv K pp G v x ∧ Rv K pp G w y := by
  cases h with
  | cons a b =>
    obtain ⟨w, rfl, r⟩ := rvl_one b
    exact ⟨_, w, rfl, a, r⟩
def lenD : PyData → Option PyData
  | .list ds => some (.int ds.length)
  | .tuple ds => some (.int ds.length)
  | .str z => if decide (z.length ≤ 16777216) then some (.int z.length) else none
  | _ => none
theorem cd_len : CallR X (.builtin "len") (rDL X.K (one lenD)) := by
  intro pins s σ H vs us Q I rs ⟨pp, ps, G, xs, d, c, r, e, k⟩
  obtain ⟨x, ex, e1⟩ := one_inv e
  subst ex
  clear e
  obtain ⟨v, ev, r1⟩ := rvl_one r
  subst ev
  clear r
  have e := e1
  clear e1
  have r := r1
  clear r1
  unfold lenD at e
  split at e
  · next ds =>
    cases e
    obtain ⟨p, ys, rfl, hp, ha⟩ := rv_lst r
    refine call_len pins s σ H _ us Q I rs ⟨_, ys.length, rfl, .inl ⟨ys, cf_l c hp, rfl⟩, ?_⟩
    rw [ha.length]
    exact k _ G H (Go.refl c) (.int _)
  · next ds =>
    cases e
    obtain ⟨p, ys, rfl, hp, ha⟩ := rv_tup r
    refine call_len pins s σ H _ us Q I rs ⟨_, ys.length, rfl, .inr ⟨ys, cf_t c hp, rfl⟩, ?_⟩
    rw [ha.length]
    exact k _ G H (Go.refl c) (.int _)
  · next z =>
    obtain ⟨h1, rfl⟩ := ite_inv e
    cases r
    exact call_len pins s σ H _ us Q I rs ⟨_, z.length, rfl, ⟨by rw [sizeLine_eq]; exact of_decide_eq_true h1, rfl⟩, k _ G H (Go.refl c) (.int _)⟩
  · cases e
def tupleD : PyData → Option PyData
  | .list ds => some (.tuple ds)
  | .tuple ds => some (.tuple ds)
  | _ => none
def listD : PyData → Option PyData
  | .list ds => some (.list ds)
  | .tuple ds => some (.list ds)
  | _ => none
theorem cd_tuple : CallR X (.type "tuple") (rDL X.K (one tupleD)) := by
  intro pins s σ H vs us Q I rs ⟨pp, ps, G, xs, d, c, r, e, k⟩
  obtain ⟨x, ex, e1⟩ := one_inv e
  subst ex
  clear e
  obtain ⟨v, ev, r1⟩ := rvl_one r
  subst ev
  clear r
  have e := e1
  clear e1
  have r := r1
  clear r1
  unfold tupleD at e
  split at e
  · next ds =>
    cases e
    obtain ⟨p, ys, rfl, hp, ha⟩ := rv_lst r
    refine call_tuple_ofF pins s σ H _ us Q I rs ⟨p, ys, rfl, .inl ⟨cf_l c hp, fun l o hl hd => ?_⟩⟩
    have gl : Go pp ps [] G H (upd G l (.frz o (.tup ys))) (upd H l (.frz o (.tup ys))) := Go.lay c hl
    exact k _ _ _ gl (.tup (.inl ⟨o, upd_same, hd⟩) (RvL.mono gl.gg _ _ ha))
  · next ds =>
    cases e
    obtain ⟨p, ys, rfl, hp, ha⟩ := rv_tup r
    exact call_tuple_ofF pins s σ H _ us Q I rs ⟨p, ys, rfl, .inr ⟨cf_t c hp, k _ G H (Go.refl c) (.tup hp ha)⟩⟩
  · cases e
theorem cd_list : CallR X (.type "list") (rDL X.K (one listD)) := by
  intro pins s σ H vs us Q I rs ⟨pp, ps, G, xs, d, c, r, e, k⟩
  obtain ⟨x, ex, e1⟩ := one_inv e
  subst ex
  clear e
  obtain ⟨v, ev, r1⟩ := rvl_one r
  subst ev
  clear r
  have e := e1
  clear e1
  have r := r1
  clear r1
  have fin : ∀ (p : Addr) (ys : List V) (ds : List PyData), RvL X.K pp G ys ds → d = .list ds → ∀ l, H l = none → Q (.ref l) (upd H l (.lst ys)) := fun p ys ds ha ed l hl => by
    subst ed
    have gl : Go pp ps [] G H (upd G l (.lst ys)) (upd H l (.lst ys)) := Go.lay c hl
    exact k _ _ _ gl (.lst (.inl upd_same) (RvL.mono gl.gg _ _ ha))
  unfold listD at e
  split at e
  · next ds =>
    cases e
    obtain ⟨p, ys, rfl, hp, ha⟩ := rv_lst r
    exact call_list_of pins s σ H _ us Q I rs ⟨p, ys, rfl, .inl (cf_l c hp), fin p ys ds ha rfl⟩
  · next ds =>
    cases e
    obtain ⟨p, ys, rfl, hp, ha⟩ := rv_tup r
    exact call_list_of pins s σ H _ us Q I rs ⟨p, ys, rfl, .inr (cf_t c hp), fin p ys ds ha rfl⟩
  · cases e
def bools : List PyData → Option (List Bool)
  | [] => some []
  | .bool b :: r => (bools r).map (b :: ·)
  | _ :: _ => none
theorem bools_rv {K : PySem.W.Frag} {pp : PP} {G : Hp} : ∀ {ds : List PyData} {bs : List Bool} {vs : List V}, bools ds = some bs → RvL K pp G vs ds → vs = bs.map V.bl
  | [], bs, vs, e, h => by
    cases e
    cases h
    rfl
  | x :: r, bs, vs, e, h => by
    cases h with
    | cons a t =>
      cases x with
      | bool b =>
        have e' : (bools r).map (b :: ·) = some bs := e
        obtain ⟨bs', h1, rfl⟩ := map_inv e'
        rw [rv_bl a, bools_rv h1 t]
        rfl
      | _ => cases e
def allD : PyData → Option PyData
  | .list ds => (bools ds).map fun bs => .bool (bs.all id)
  | _ => none
theorem cd_all (hc : X.calm = true) : CallR X (.builtin "all") (rDL X.K (one allD)) := by
  intro pins s σ H vs us Q I rs ⟨pp, ps, G, xs, d, c, r, e, k⟩
  obtain ⟨x, ex, e1⟩ := one_inv e
  subst ex
  clear e
  obtain ⟨v, ev, r1⟩ := rvl_one r
  subst ev
  clear r
  have e := e1
  clear e1
  have r := r1
  clear r1
  unfold allD at e
  split at e
  · next ds =>
    obtain ⟨bs, h1, rfl⟩ := map_inv e
    obtain ⟨p, ys, rfl, hp, ha⟩ := rv_lst r
    have ey := bools_rv h1 ha
    subst ey
    exact cr_all hc pins s σ H _ us Q I rs ⟨p, bs, rfl, cf_l c hp, k _ G H (Go.refl c) (.bl _)⟩
  · cases e
def intD : PyData → Option PyData
  | .int i => some (.int i)
  | .bool b => some (.int (if b then 1 else 0))
  | _ => none
theorem cd_int : CallR X (.type "int") (rDL X.K (one intD)) := by
  intro pins s σ H vs us Q I rs ⟨pp, ps, G, xs, d, c, r, e, k⟩
  obtain ⟨x, ex, e1⟩ := one_inv e
  subst ex
  clear e
  obtain ⟨v, ev, r1⟩ := rvl_one r
  subst ev
  clear r
  have e := e1
  clear e1
  have r := r1
  clear r1
  unfold intD at e
  split at e
  · next i =>
    cases e
    cases r
    exact call_int1 pins s σ H _ us Q I rs (.inl ⟨i, rfl, k _ G H (Go.refl c) (.int _)⟩)
  · next b =>
    cases e
    cases r
    exact call_int1 pins s σ H _ us Q I rs (.inr ⟨b, rfl, k _ G H (Go.refl c) (.int _)⟩)
  · cases e
def absD : PyData → Option PyData
  | .int i => some (.int (if i < 0 then -i else i))
  | _ => none
theorem cd_abs : CallR X (.builtin "abs") (rDL X.K (one absD)) := by
  intro pins s σ H vs us Q I rs ⟨pp, ps, G, xs, d, c, r, e, k⟩
  obtain ⟨x, ex, e1⟩ := one_inv e
  subst ex
  clear e
  obtain ⟨v, ev, r1⟩ := rvl_one r
  subst ev
  clear r
  have e := e1
  clear e1
  have r := r1
  clear r1
  unfold absD at e
  split at e
  · next i =>
    cases e
    cases r
    exact call_abs pins s σ H _ us Q I rs ⟨i, rfl, k _ G H (Go.refl c) (.int _)⟩
  · cases e
def max2 : List PyData → Option PyData
  | [.int i, .int j] => some (.int (if j > i then j else i))
  | _ => none
def min2 : List PyData → Option PyData
  | [.int i, .int j] => some (.int (if j < i then j else i))
  | _ => none
theorem cd_max2 (hc : X.calm = true) : CallR X (.builtin "max") (rDL X.K max2) := by
  intro pins s σ H vs us Q I rs ⟨pp, ps, G, xs, d, c, r, e, k⟩
  unfold max2 at e
  split at e
  · next i j =>
    cases e
    obtain ⟨v, w, rfl, r1, r2⟩ := rvl_two r
    cases r1
    cases r2
    exact call_max2 hc pins s σ H _ us Q I rs ⟨i, j, rfl, k _ G H (Go.refl c) (.int _)⟩
  · cases e
theorem cd_min2 (hc : X.calm = true) : CallR X (.builtin "min") (rDL X.K min2) := by
  intro pins s σ H vs us Q I rs ⟨pp, ps, G, xs, d, c, r, e, k⟩
  unfold min2 at e
  split at e
  · next i j =>
    cases e
    obtain ⟨v, w, rfl, r1, r2⟩ := rvl_two r
    cases r1
    cases r2
    exact call_min2 hc pins s σ H _ us Q I rs ⟨i, j, rfl, k _ G H (Go.refl c) (.int _)⟩
  · cases e
end
end DL
set_option Elab.async false
set_option linter.all false
set_option maxRecDepth 100000
namespace DL
open PySem L2
variable [TBL]
inductive OutS where
  | nx (S : Sd)
  | rt (d : PyData)
  | bk (S : Sd)
  | ct (S : Sd)
abbrev SG := Sd → Pt → Option (OutS × Pt)
structure GoS (pp : PP) (ps' : Pt) (S : Sd) (σ : L2.St) (G H : Hp) (S' : Sd) (σ' : L2.St) (G' H' : Hp) : Prop where
  gg : Same G G'
  cf : Cf pp ps' G' H'
  fresh : ∀ b o, G' b = some o → G b = none → H b = none ∨ Owned S σ b
  keep : ∀ b o, H b = some o → pp.no b → ¬ Owned S σ b → NT o → H' b = some o
  own : ∀ b, Owned S' σ' b → H b = none ∨ Owned S σ b
  there : ∀ b, H' b = none → H b = none
section
variable {pp : PP} {ps ps1 ps2 : Pt} {S S1 S2 : Sd} {σ σ1 σ2 : L2.St} {G H G1 H1 G2 H2 : Hp} {K : PySem.W.Frag}
theorem GoS.trans (a : GoS pp ps1 S σ G H S1 σ1 G1 H1) (b : GoS pp ps2 S1 σ1 G1 H1 S2 σ2 G2 H2) : GoS pp ps2 S σ G H S2 σ2 G2 H2 where
  gg := a.gg.trans b.gg
  cf := b.cf
  fresh := fun c o h n => by
    cases q : G1 c with
    | none =>
      rcases b.fresh c o h q with z | z
      · exact .inl (a.there c z)
      · exact a.own c z
    | some u => exact a.fresh c u q n
  keep := fun c o h hp ho nt => b.keep c o (a.keep c o h hp ho nt) hp (fun z => by
    rcases a.own c z with y | y
    · rw [h] at y
      cases y
    · exact ho y) nt
  own := fun c z => by
    rcases b.own c z with y | y
    · exact .inl (a.there c y)
    · exact a.own c y
  there := fun c z => a.there c (b.there c z)
theorem Go.toS (g : Go pp ps1 [] G H G1 H1) (h : ∀ b, Owned S1 σ1 b → Owned S σ b) : GoS pp ps1 S σ G H S1 σ1 G1 H1 :=
  ⟨g.gg, g.cf, fun b o x y => .inl (g.fresh b o x y), fun b o x y _ nt => g.keep b o x y (by simp) nt, fun b z => .inr (h b z), fun b z => g.none_of z⟩
theorem owned_nil {b : Addr} : ¬ Owned [] σ b := fun ⟨i, ds, h, _⟩ => by simp at h
theorem Go.toR (g : Go pp ps1 [] G H G1 H1) : GoS pp ps1 S σ G H [] [] G1 H1 := g.toS fun b z => absurd z owned_nil
theorem GoS.toGo (g : GoS pp ps1 S σ G H S1 σ1 G1 H1) (h : ∀ b, ¬ Owned S σ b) : Go pp ps1 [] G H G1 H1 :=
  ⟨g.gg, g.cf, fun b o x y => (g.fresh b o x y).resolve_right (h b), fun b o x y _ nt => g.keep b o x y (h b) nt, g.there⟩
theorem GoS.refl (c : Cf pp ps G H) (h : ∀ b, Owned S1 σ1 b → Owned S σ b) : GoS pp ps S σ G H S1 σ1 G H := (Go.refl c).toS h
theorem owned_set {i : Nat} {sv : SV} {o : Option V} {b : Addr} (hsv : ∀ ds, sv ≠ .own ds) (h : Owned (S.set i sv) (σ.set i o) b) : Owned S σ b := by
  obtain ⟨j, ds, e1, e2⟩ := h
  by_cases hj : i = j
  · subst hj
    rw [List.getElem?_set] at e1
    split at e1
    · split at e1
      · exact absurd (Option.some.inj e1) (hsv ds)
      · cases e1
    · next n => exact absurd rfl n
  · rw [List.getElem?_set_ne hj] at e1 e2
    exact ⟨j, ds, e1, e2⟩
theorem dat_ne {d : PyData} (ds : PyData) : SV.dat d ≠ .own ds := fun z => by cases z
theorem Sl.set {i : Nat} {d : PyData} {v : V} (s : Sl K pp G H S σ) (r : Rv K pp G v d) : Sl K pp G H (S.set i (.dat d)) (σ.set i (some v)) := by
  refine ⟨by simp [s.len], fun j sv e => ?_, fun j l ds es p e1 e2 e3 e4 => ?_⟩
  · by_cases hj : i = j
    · subst hj
      rw [List.getElem?_set] at e
      split at e
      · split at e
        · next hlt =>
          cases e
          refine ⟨some v, ?_, v, rfl, r⟩
          rw [List.getElem?_set, if_pos rfl, if_pos (by rw [← s.len]; exact hlt)]
        · cases e
      · next n => exact absurd rfl n
    · rw [List.getElem?_set_ne hj] at e
      obtain ⟨o, h1, h2⟩ := s.each j sv e
      exact ⟨o, by rw [List.getElem?_set_ne hj]; exact h1, h2⟩
  · have nj : i ≠ j := fun z => by
      subst z
      rw [List.getElem?_set] at e1
      split at e1
      · split at e1
        · cases e1
        · cases e1
      · next n => exact absurd rfl n
    have nl : i ≠ l := fun z => by
      subst z
      rw [List.getElem?_set] at e2
      split at e2
      · split at e2
        · cases e2
        · cases e2
      · next n => exact absurd rfl n
    rw [List.getElem?_set_ne nj] at e1 e3
    rw [List.getElem?_set_ne nl] at e2 e4
    exact s.apart j l ds es p e1 e2 e3 e4
end
def EndD (K : PySem.W.Frag) (D : Ends) (pp : PP) (ps' : Pt) (S : Sd) (σ : L2.St) (G H : Hp) : OutS → Prop
  | .nx S' => ∀ σ' G' H', GoS pp ps' S σ G H S' σ' G' H' → Sl K pp G' H' S' σ' → D.nx σ' H'
  | .rt d => ∀ v G' H', GoS pp ps' S σ G H [] [] G' H' → Rv K pp G' v d → D.rt v H'
  | .bk S' => ∀ σ' G' H', GoS pp ps' S σ G H S' σ' G' H' → Sl K pp G' H' S' σ' → D.bk σ' H'
  | .ct S' => ∀ σ' G' H', GoS pp ps' S σ G H S' σ' G' H' → Sl K pp G' H' S' σ' → D.ct σ' H'
def TDS (K : PySem.W.Frag) (g : SG) : TS := fun D σ H => ∃ (pp : PP) (ps : Pt) (G : Hp) (S : Sd) (r : OutS) (ps' : Pt), Cf pp ps G H ∧ Sl K pp G H S σ ∧ g S ps = some (r, ps') ∧ EndD K D pp ps' S σ G H r
abbrev PDS (X : Cx) (st : Stmt) (g : SG) : Prop := PS X st (TDS X.K g)
abbrev PDSs (X : Cx) (sts : List Stmt) (g : SG) : Prop := PSs X sts (TDS X.K g)
theorem EndD.back {K : PySem.W.Frag} {D : Ends} {pp : PP} {ps1 ps' : Pt} {S S1 : Sd} {σ σ1 : L2.St} {G H G1 H1 : Hp} {r : OutS} (a : GoS pp ps1 S σ G H S1 σ1 G1 H1) (h : EndD K D pp ps' S σ G H r) : EndD K D pp ps' S1 σ1 G1 H1 r := by
  cases r with
  | nx S' => exact fun σ' G' H' g s => h σ' G' H' (a.trans g) s
  | rt d => exact fun v G' H' g s => h v G' H' (a.trans g) s
  | bk S' => exact fun σ' G' H' g s => h σ' G' H' (a.trans g) s
  | ct S' => exact fun σ' G' H' g s => h σ' G' H' (a.trans g) s
section
variable {X : Cx}
theorem ps_imp {st : Stmt} {t t' : TS} (h : PS X st t) (i : ∀ D σ H, t' D σ H → t D σ H) : PS X st t' := ⟨fun pins s σ H D I q => h.run pins s σ H D I (i D σ H q)⟩
theorem pss_imp {st : List Stmt} {t t' : TS} (h : PSs X st t) (i : ∀ D σ H, t' D σ H → t D σ H) : PSs X st t' := ⟨fun pins s σ H D I q => h.run pins s σ H D I (i D σ H q)⟩
def sRet (g : EG) : SG := fun S ps => bindP (g S ps) fun d p => some (.rt d, p)
theorem pds_ret {e : Expr} {g : EG} {pos : Pos} (h : PD X e g) : PDS X (.Return (some e) pos) (sRet g) := ps_imp (ps_ret h) fun D σ H ⟨pp, ps, G, S, r, ps', c, s, e, k⟩ => by
  obtain ⟨d, p1, e1, e⟩ := bindP_inv e
  cases e
  exact ⟨pp, ps, G, S, d, _, c, s, e1, fun v G' H' g' r' => k v G' H' g'.toR r'⟩
def sSet (i : Nat) (g : EG) : SG := fun S ps => bindP (g S ps) fun d p => some (.nx (S.set i (.dat d)), p)
theorem pds_set {i : Nat} {x : Str} {e : Expr} {g : EG} {pos' pos : Pos} (hN : X.N.Nodup) (hi : X.N[i]? = some x) (hx : Loc X.env.scope x) (h : PD X e g)
    (hf : X.fn x = true ∨ X.env.scope.names.lookup x = some .local := by first | exact .inl rfl | exact .inr rfl | assumption)
    (hs : swapsWithSole [.Name x pos'] e pos.line X.env = pure false := by rfl) (hw : swappedStores [.Name x pos'] e X.env = pure none := by rfl) (h1 : (assignEach [.Name x pos'] X.env).map (·.2) = [assign (.Name x pos') X.env] := by rfl) : PDS X (.Assign [.Name x pos'] e pos) (sSet i g) :=
  ps_imp (ps_asg h (pg_name hN hi hx hf) hs hw h1) fun D σ H ⟨pp, ps, G, S, r, ps', c, s, e, k⟩ => by
    obtain ⟨d, p1, e1, e⟩ := bindP_inv e
    cases e
    refine ⟨pp, ps, G, S, d, _, c, s, e1, fun v G' H' g' r' => ?_⟩
    exact k _ G' H' (g'.toS fun b z => owned_set dat_ne z) ((s.go g').set r')
def sSeq (a b : SG) : SG := fun S ps => match a S ps with
  | some (.nx S1, p) => b S1 p
  | some (.rt d, p) => some (.rt d, p)
  | some (.bk S1, p) => some (.bk S1, p)
  | some (.ct S1, p) => some (.ct S1, p)
  | none => none
theorem pds_seq {st : Stmt} {rest : List Stmt} {a b : SG} (ha : PDS X st a) (hb : PDSs X rest b) : PDSs X (st :: rest) (sSeq a b) := pss_imp (pss_cons ha hb) fun D σ H ⟨pp, ps, G, S, r, ps', c, s, e, k⟩ => by
  unfold sSeq at e
  split at e
  · next S1 p1 e1 => exact ⟨pp, ps, G, S, _, p1, c, s, e1, fun σ1 G1 H1 g1 s1 => ⟨pp, p1, G1, S1, r, ps', g1.cf, s1, e, EndD.back g1 k⟩⟩
  · next d p1 e1 =>
    cases e
    exact ⟨pp, ps, G, S, _, _, c, s, e1, k⟩
  · next d p1 e1 =>
    cases e
    exact ⟨pp, ps, G, S, _, _, c, s, e1, k⟩
  · next d p1 e1 =>
    cases e
    exact ⟨pp, ps, G, S, _, _, c, s, e1, k⟩
  · cases e
theorem pds_one {st : Stmt} {a : SG} (ha : PDS X st a) : PDSs X [st] a := pss_one ha
def sNil : SG := fun S ps => some (.nx S, ps)
theorem pds_nil : PDSs X [] sNil := pss_imp pss_nil fun D σ H ⟨pp, ps, G, S, r, ps', c, s, e, k⟩ => by
  cases e
  exact k σ G H (GoS.refl c fun b z => z) s
def sIf (t : BG) (a b : SG) : SG := fun S ps => bindP (t S ps) fun x p => if x then a S p else b S p
theorem pds_if {t : Expr} {sa sb : List Stmt} {g : BG} {a b : SG} {pos : Pos} (ht : PDT X t g) (ha : PDSs X sa a) (hb : PDSs X sb b) : PDS X (.If t sa sb pos) (sIf g a b) := ps_imp (ps_if ht ha hb) fun D σ H ⟨pp, ps, G, S, r, ps', c, s, e, k⟩ => by
  obtain ⟨x, p1, e1, e⟩ := bindP_inv e
  refine ⟨pp, ps, G, S, x, p1, c, s, e1, fun G1 H1 g1 => ?_⟩
  have g2 : GoS pp p1 S σ G H S σ G1 H1 := g1.toS fun b z => z
  cases x with
  | true => exact iteT ⟨pp, p1, G1, S, r, ps', g1.cf, s.go g1, e, EndD.back g2 k⟩
  | false => exact iteF ⟨pp, p1, G1, S, r, ps', g1.cf, s.go g1, e, EndD.back g2 k⟩
def tiD (K : PySem.W.Frag) (g : EG) : TI := fun σ H R => ∃ (pp : PP) (ps : Pt) (G : Hp) (S : Sd) (d : PyData) (ps' : Pt), Cf pp ps G H ∧ Sl K pp G H S σ ∧ g S ps = some (d, ps') ∧ (∃ ds, d = .list ds ∨ d = .tuple ds) ∧
  ∀ a G' H', Go pp ps' [] G H G' H' → Rv K pp G' (.ref a) d → (∀ ds, d = .list ds → R (Itl K a) H') ∧ (∀ ds, d = .tuple ds → R (Itt K a) H')
theorem pi_data {tg l : Expr} {g : EG} (h : PD X l g) : PI X tg l (tiD X.K g) := by
  refine ⟨fun pins s σ H R I hq => ?_⟩
  obtain ⟨pp, ps, G, S, d, ps', c, sl, e, ⟨ds, hd⟩, k⟩ := hq
  rcases hd with rfl | rfl
  · refine (pi_list h).run pins s σ H R I ⟨pp, ps, G, S, _, ps', c, sl, e, fun v G' H' g' r' => ?_⟩
    obtain ⟨a, xs, rfl, hx, ha⟩ := rv_lst r'
    exact ⟨a, rfl, ⟨xs, cf_l g'.cf hx⟩, (k a G' H' g' r').1 ds rfl⟩
  · refine (pi_tup h).run pins s σ H R I ⟨pp, ps, G, S, _, ps', c, sl, e, fun v G' H' g' r' => ?_⟩
    obtain ⟨a, xs, rfl, hx, ha⟩ := rv_tup r'
    exact ⟨a, rfl, ⟨xs, cf_t g'.cf hx⟩, (k a G' H' g' r').2 ds rfl⟩
structure Wk (K : PySem.W.Frag) (pp : PP) (G : Hp) (J : It) (ds : List PyData) : Prop where
  go : ∀ i H', Same G H' → i < ds.length → J.go i H'
  stop : ∀ i H', Same G H' → ds.length ≤ i → J.stop i H'
  yld : ∀ i H' x H'' d G1 q, Same G G1 → Cf pp q G1 H' → ds[i]? = some d → J.yld i H' x H'' → ∃ G2, Go pp q [] G1 H' G2 H'' ∧ Rv K pp G2 x d
theorem Wk.flat {K : PySem.W.Frag} {pp : PP} {G : Hp} {J : It} {ds : List PyData} (go : ∀ i H', Same G H' → i < ds.length → J.go i H') (stop : ∀ i H', Same G H' → ds.length ≤ i → J.stop i H')
    (yld : ∀ i H' x H'' d, Same G H' → ds[i]? = some d → J.yld i H' x H'' → H'' = H' ∧ Rv K pp G x d) : Wk K pp G J ds :=
  ⟨go, stop, fun i H' x H'' d G1 q e c hd hy => by
    obtain ⟨rfl, r⟩ := yld i H' x H'' d (e.trans c.ex) hd hy
    exact ⟨G1, Go.refl c, Rv.mono e _ _ r⟩⟩
theorem wk_list {K : PySem.W.Frag} {pp : PP} {G : Hp} {a : Addr} {ds : List PyData} (h : Rv K pp G (.ref a) (.list ds)) : Wk K pp G (Itl K a) ds := by
  obtain ⟨a', xs, e, hx, ha⟩ := rv_lst h
  cases e
  refine Wk.flat (fun i H' g hi => ?_) (fun i H' g hi => ⟨xs, .inl (same_l g hx), by rw [ha.length]; exact hi⟩) (fun i H' x H'' d g hd hy => ?_)
  · obtain ⟨v, hv, _⟩ := ha.get (List.getElem?_eq_getElem hi)
    exact ⟨xs, v, .inl (same_l g hx), hv⟩
  · obtain ⟨v, hv, r⟩ := ha.get hd
    have := hy.2 xs (.inl (same_l g hx))
    rw [hv] at this
    cases this
    exact ⟨hy.1, r⟩
theorem wk_tup {K : PySem.W.Frag} {pp : PP} {G : Hp} {a : Addr} {ds : List PyData} (h : Rv K pp G (.ref a) (.tuple ds)) : Wk K pp G (Itt K a) ds := by
  obtain ⟨a', xs, e, hx, ha⟩ := rv_tup h
  cases e
  refine Wk.flat (fun i H' g hi => ?_) (fun i H' g hi => ⟨xs, same_t g hx.t, by rw [ha.length]; exact hi⟩) (fun i H' x H'' d g hd hy => ?_)
  · obtain ⟨v, hv, _⟩ := ha.get (List.getElem?_eq_getElem hi)
    exact ⟨xs, v, same_t g hx.t, hv⟩
  · obtain ⟨v, hv, r⟩ := ha.get hd
    have := hy.2 xs (same_t g hx.t)
    rw [hv] at this
    cases this
    exact ⟨hy.1, r⟩
def rangeD (n : Nat) : List PyData := (List.range n).map fun (i : Nat) => PyData.int (i : Int)
theorem wk_range {K : PySem.W.Frag} {pp : PP} {G : Hp} {n : Nat} : Wk K pp G (Itr 0 n) (rangeD n) := by
  have hl : (rangeD n).length = n := by
    unfold rangeD
    rw [List.length_map, List.length_range]
  refine Wk.flat (fun i H' g hi => ?_) (fun i H' g hi => ?_) (fun i H' x H'' d g hd hy => ?_)
  · rw [hl] at hi
    exact hi
  · rw [hl] at hi
    exact hi
  · obtain ⟨h1, h2⟩ := hy
    refine ⟨h1, ?_⟩
    subst h2
    unfold rangeD at hd
    rw [List.getElem?_map] at hd
    obtain ⟨j, hj, rfl⟩ := map_inv hd
    obtain ⟨_, e⟩ := List.getElem?_eq_some_iff.mp hj
    rw [List.getElem_range] at e
    subst e
    rw [Int.zero_add]
    exact .int _
def tiW (K : PySem.W.Frag) (g : Sd → Pt → Option (List PyData × Pt)) : TI := fun σ H R => ∃ (pp : PP) (ps : Pt) (G : Hp) (S : Sd) (ds : List PyData) (ps' : Pt), Cf pp ps G H ∧ Sl K pp G H S σ ∧ g S ps = some (ds, ps') ∧
  ∀ J G' H', Go pp ps' [] G H G' H' → Wk K pp G' J ds → R J H'
abbrev PDI (X : Cx) (tg l : Expr) (g : AG) : Prop := PI X tg l (tiW X.K g)
theorem pi_imp {tg l : Expr} {t t' : TI} (h : PI X tg l t) (i : ∀ σ H R, t' σ H R → t σ H R) : PI X tg l t' := ⟨fun pins s σ H R I q => h.run pins s σ H R I (i σ H R q)⟩
def iOf (g : EG) : AG := fun S ps => bindP (g S ps) fun d p => (items d).map fun ds => (ds, p)
theorem pdi_data {tg l : Expr} {g : EG} (h : PD X l g) : PDI X tg l (iOf g) := pi_imp (pi_data h) fun σ H R ⟨pp, ps, G, S, ds, ps', c, s, e, k⟩ => by
  obtain ⟨d, p1, e1, e⟩ := bindP_inv e
  obtain ⟨ds', e2, e⟩ := map_inv e
  cases e
  refine ⟨pp, ps, G, S, d, _, c, s, e1, ?_, fun a G' H' g' r' => ⟨fun es ed => ?_, fun es ed => ?_⟩⟩
  · cases d with
    | list l => exact ⟨l, .inl rfl⟩
    | tuple l => exact ⟨l, .inr rfl⟩
    | _ => cases e2
  · subst ed
    cases e2
    exact k _ G' H' g' (wk_list r')
  · subst ed
    cases e2
    exact k _ G' H' g' (wk_tup r')
def iRange (gs : AG) : AG := fun S ps => match gs S ps with
  | some ([.int j], p) => if decide (-(2 ^ 62) ≤ j) && decide (j < 2 ^ 62) then some (rangeD j.toNat, p) else none
  | _ => none
theorem pdi_range1 {tg a : Expr} {gs : AG} {p pos : Pos} (hg : Gl X "range") (hm : X.mg "range" = none) (ha : PDA X [a] gs) (hs : starEach [a] X.env = [(false, eval a X.env)] := by rfl) : PDI X tg (.Call (.Name "range" p) [a] [] pos) (iRange gs) :=
  pi_imp (pi_range1 hg hm ha hs) fun σ H R ⟨pp, ps, G, S, ds, ps', c, s, e, k⟩ => by
    unfold iRange at e
    split at e
    · next j p1 e1 =>
      obtain ⟨h1, e⟩ := ite_inv e
      cases e
      rw [Bool.and_eq_true] at h1
      refine ⟨pp, ps, G, S, _, _, c, s, e1, fun vs G' H' g' r' => ?_⟩
      obtain ⟨v, rfl, r⟩ := rvl_one r'
      cases r
      exact ⟨j, rfl, of_decide_eq_true h1.1, of_decide_eq_true h1.2, k _ G' H' g' wk_range⟩
    · cases e
abbrev Tgt := PyData → Sd → Option Sd
def tgD (K : PySem.W.Frag) (is : List Nat) (t : Tgt) : TG := fun v σ H Q => ∃ (pp : PP) (ps : Pt) (G : Hp) (S : Sd) (d : PyData) (S' : Sd), Cf pp ps G H ∧ Sl K pp G H S σ ∧ Rv K pp G v d ∧ t d S = some S' ∧
  ∀ σ', Sl K pp G H S' σ' → (∀ b, Owned S' σ' b → Owned S σ b) → σ'.length = σ.length → (∀ j, j ∉ is → σ'[j]? = σ[j]?) → Q σ' H
abbrev PDG (X : Cx) (tg : Expr) (is : List Nat) (t : Tgt) : Prop := PG X tg (tgD X.K is t)
def tName (i : Nat) : Tgt := fun d S => some (S.set i (.dat d))
theorem pg_imp {tg : Expr} {t t' : TG} (h : PG X tg t) (i : ∀ v σ H Q, t' v σ H Q → t v σ H Q) : PG X tg t' := ⟨fun pins s σ H v u Q I r q => h.run pins s σ H v u Q I r (i v σ H Q q)⟩
theorem pdg_name {i : Nat} {x : Str} {pos : Pos} (hN : X.N.Nodup) (hi : X.N[i]? = some x) (hx : Loc X.env.scope x) (hf : X.fn x = true ∨ X.env.scope.names.lookup x = some .local := by first | exact .inl rfl | exact .inr rfl | assumption) : PDG X (.Name x pos) [i] (tName i) :=
  pg_imp (pg_name hN hi hx hf) fun v σ H Q ⟨pp, ps, G, S, d, S', c, s, r, e, k⟩ => by
    cases e
    exact k _ (s.set r) (fun b z => owned_set dat_ne z) (by simp) fun j hj => List.getElem?_set_ne (by intro z; subst z; simp at hj)
def forGo (t : Tgt) (body : SG) : List PyData → SG
  | [], S, ps => some (.nx S, ps)
  | x :: xs, S, ps => match t x S with
    | none => none
    | some S0 => match body S0 ps with
      | some (.nx S1, p) => forGo t body xs S1 p
      | some (.ct S1, p) => forGo t body xs S1 p
      | some (.bk S1, p) => some (.nx S1, p)
      | some (.rt d, p) => some (.rt d, p)
      | none => none
def sFor (it : AG) (t : Tgt) (body : SG) : SG := fun S ps => bindP (it S ps) fun ds p => forGo t body ds S p
theorem pds_for {tg iter : Expr} {sb : List Stmt} {it : AG} {is : List Nat} {t : Tgt} {body : SG} {pos : Pos} (hp : PassesOwn (model X.prog X.w) X.A X.env X.xe) (hc : X.calm = true) (hi : PDI X tg iter it) (hg : PDG X tg is t) (hb : PDSs X sb body)
    (hs : ∀ x, foldedSetIterable iter X.env x = pure x := by intro _; rfl) : PDS X (.For tg iter sb [] pos) (sFor it t body) :=
  ps_imp (ps_for hp hc hi hg hb hs) fun D σ H ⟨pp, ps, G, S, r, ps', c, s, e, k⟩ => by
    obtain ⟨ds, p1, e1, e⟩ := bindP_inv e
    refine ⟨pp, ps, G, S, ds, p1, c, s, e1, fun J G0 H0 g0 wk => ?_⟩
    have g0s : GoS pp p1 S σ G H S σ G0 H0 := g0.toS fun b z => z
    refine ⟨fun i m σ1 H1 => ∃ S1 q G1, GoS pp q S σ G H S1 σ1 G1 H1 ∧ Same G0 G1 ∧ Sl X.K pp G1 H1 S1 σ1 ∧ forGo t body (ds.drop i) S1 q = some (r, ps') ∧ m = ds.length - i ∧ i ≤ ds.length,
      ⟨ds.length, S, p1, G0, g0s, Same.refl G0, s.go g0, by rw [List.drop_zero]; exact e, by omega, by omega⟩, fun i m σ1 H1 hW => ?_⟩
    obtain ⟨S1, q, G1, ga, gb, s1, ef, em, hi⟩ := hW
    have up : Same G0 H1 := gb.trans ga.cf.ex
    by_cases hlt : i < ds.length
    · have ed : ds.drop i = ds[i] :: ds.drop (i + 1) := List.drop_eq_getElem_cons hlt
      rw [ed] at ef
      unfold forGo at ef
      cases et : t ds[i] S1 with
      | none =>
        rw [et] at ef
        cases ef
      | some S0 =>
        rw [et] at ef
        refine .inr ⟨wk.go i H1 up hlt, fun σ' H' => ∃ S2 q2 G2, GoS pp q2 S σ G H S2 σ' G2 H' ∧ Same G0 G2 ∧ Sl X.K pp G2 H' S2 σ' ∧ forGo t body (ds.drop (i + 1)) S2 q2 = some (r, ps'), fun σ' H' hn => ?_, fun x H' hy => ?_⟩
        · obtain ⟨S2, q2, G2, a1, a2, a3, a4⟩ := hn
          exact ⟨m - 1, by omega, S2, q2, G2, a1, a2, a3, a4, by omega, by omega⟩
        · obtain ⟨Gy, gy, rx⟩ := wk.yld i H1 x H' _ G1 q gb ga.cf (List.getElem?_eq_getElem hlt) hy
          have gaY := ga.trans (gy.toS fun b z => z)
          have gbY := gb.trans gy.gg
          have s1Y := s1.go gy
          refine ⟨pp, q, Gy, S1, _, S0, gaY.cf, s1Y, rx, et, fun σ2 s2 ho _ _ => ?_⟩
          have gc : GoS pp q S σ G H S0 σ2 Gy H' := gaY.trans (GoS.refl gaY.cf ho)
          dsimp only at ef
          split at ef
          · next S2 p2 eb => exact ⟨pp, q, Gy, S0, _, p2, gaY.cf, s2, eb, fun σ3 G3 H3 g3 s3 => ⟨S2, p2, G3, gc.trans g3, gbY.trans g3.gg, s3, ef⟩⟩
          · next S2 p2 eb => exact ⟨pp, q, Gy, S0, _, p2, gaY.cf, s2, eb, fun σ3 G3 H3 g3 s3 => ⟨S2, p2, G3, gc.trans g3, gbY.trans g3.gg, s3, ef⟩⟩
          · next S2 p2 eb =>
            cases ef
            exact ⟨pp, q, Gy, S0, _, _, gaY.cf, s2, eb, fun σ3 G3 H3 g3 s3 => k σ3 G3 H3 (gc.trans g3) s3⟩
          · next d p2 eb =>
            cases ef
            exact ⟨pp, q, Gy, S0, _, _, gaY.cf, s2, eb, fun v G3 H3 g3 r3 => k v G3 H3 (gc.trans g3) r3⟩
          · cases ef
    · have ei : i = ds.length := by omega
      subst ei
      rw [List.drop_length] at ef
      cases ef
      exact .inl ⟨wk.stop _ H1 up (Nat.le_refl _), k σ1 G1 H1 ga s1⟩
def startD (n : Nat) (ds : List PyData) : Sd := ds.map .dat ++ List.replicate (n - ds.length) .un
def runF (n : Nat) (g : SG) (ds : List PyData) (ps : Pt) : Option (PyData × Pt) := match g (startD n ds) ps with
  | some (.rt d, p) => some (d, p)
  | some (.nx _, p) => some (.none, p)
  | _ => none
theorem get_rep {α : Type} {n i : Nat} {a x : α} (h : (List.replicate n a)[i]? = some x) : x = a := by
  rw [List.getElem?_replicate] at h
  split at h
  · exact (Option.some.inj h).symm
  · cases h
theorem start_get {n : Nat} {ds : List PyData} {i : Nat} {sv : SV} (h : (startD n ds)[i]? = some sv) : (∃ d, ds[i]? = some d ∧ sv = .dat d) ∨ sv = .un ∧ ds.length ≤ i := by
  unfold startD at h
  by_cases hi : i < ds.length
  · rw [List.getElem?_append_left (by rw [List.length_map]; exact hi), List.getElem?_map] at h
    obtain ⟨d, h1, rfl⟩ := map_inv h
    exact .inl ⟨d, h1, rfl⟩
  · rw [List.getElem?_append_right (by rw [List.length_map]; omega)] at h
    exact .inr ⟨get_rep h, by omega⟩
theorem sl_start {K : PySem.W.Frag} {pp : PP} {G H : Hp} {N : List Str} {vs : List V} {ds : List PyData} (r : RvL K pp G vs ds) (hl : vs.length ≤ N.length) : Sl K pp G H (startD N.length ds) (L2.start N vs) := by
  have hlen := r.length
  refine ⟨?_, fun i sv e => ?_, fun i j ds' es p e1 => ?_⟩
  · unfold startD L2.start
    simp only [List.length_append, List.length_map, List.length_replicate]
    omega
  · rcases start_get e with ⟨d, h1, rfl⟩ | ⟨rfl, hi⟩
    · obtain ⟨v, hv, rv⟩ := r.get h1
      refine ⟨some v, ?_, v, rfl, rv⟩
      have hi : i < vs.length := (List.getElem?_eq_some_iff.mp hv).1
      unfold L2.start
      rw [List.getElem?_append_left (by rw [List.length_map]; exact hi), List.getElem?_map, hv]
      rfl
    · have hi2 : i < (L2.start N vs).length := by
        have : i < (startD N.length ds).length := (List.getElem?_eq_some_iff.mp e).1
        unfold startD at this
        unfold L2.start
        simp only [List.length_append, List.length_map, List.length_replicate] at this ⊢
        omega
      exact ⟨_, List.getElem?_eq_getElem hi2, True.intro⟩
  · rcases start_get e1 with ⟨d, _, z⟩ | ⟨z, _⟩ <;> cases z
theorem start_own {n : Nat} {ds : List PyData} {σ : L2.St} {b : Addr} : ¬ Owned (startD n ds) σ b := fun ⟨i, es, h, _⟩ => by
  rcases start_get h with ⟨d, _, z⟩ | ⟨z, _⟩ <;> cases z
section
variable {P : Program} {w : World} {K : PySem.W.Frag} {mg : Str → Option Value} {base : Heap}
theorem fn_of_body {x qual : Str} {st : Stmt} {f : Addr} {fd : FuncData} {N ps : List Str} {k : Nat} {g : SG} (F : Fun K x qual st f fd) (S : FnScope N ps (defScope st)) (hn : ps.length ≤ N.length)
    (hbody : ∀ (cdv : Value) (A : Around) (outer : List Env) (s : Shared) (H : Hp) (E : XK), Rm k (A.deeper (PyProof.Rows.envOfC qual (defScope st) s.heap.objs.size f cdv)) → PDSs (cxOf CX0 P w K mg base N qual (defScope st) f cdv A outer s H E).nox (defBody st) g) :
    FnD P w K mg base (k + 1) f fd ps (runF N.length g) := by
  refine ok_g F S (fun vs H Q E h => ?_) (fun cdv A outer s H vs Q E hr h => ?_)
  · obtain ⟨pp, p, G, ds, d, p', hl, c, r, e, q⟩ := h
    rw [r.length]
    exact hl
  · obtain ⟨pp, p, G, ds, d, p', hl, c, r, e, q⟩ := h
    refine ⟨_, hbody cdv A outer s H E hr, ?_⟩
    have hvl : vs.length ≤ N.length := by
      rw [r.length, hl]
      exact hn
    unfold runF at e
    split at e
    · next d' p1 eg =>
      cases e
      exact ⟨pp, p, G, _, _, _, c, sl_start r hvl, eg, fun v G' H' g' r' => q v G' H' (g'.toGo fun b => start_own) r'⟩
    · next S' p1 eg =>
      cases e
      exact ⟨pp, p, G, _, _, _, c, sl_start r hvl, eg, fun σ' G' H' g' s' => q _ G' H' (g'.toGo fun b => start_own) .non⟩
    · cases e
end
end
end DL
set_option Elab.async false
set_option linter.all false
set_option maxRecDepth 100000
namespace DL
open PySem L2
variable [TBL]
def wipeD (S : Sd) : List Nat → Sd
  | [] => S
  | v :: vs => (wipeD S vs).set v .un
theorem wipe_get (σ : L2.St) (j : Nat) : ∀ vs : List Nat, (wipe σ vs)[j]? = if j ∈ vs then (σ[j]?).map (fun _ => none) else σ[j]?
  | [] => by simp [wipe]
  | v :: vs => by
    have ih := wipe_get σ j vs
    unfold wipe
    rw [List.getElem?_set]
    by_cases h : v = j
    · subst h
      rw [if_pos rfl, wipe_length, if_pos (show v ∈ v :: vs from List.mem_cons_self)]
      by_cases hl : v < σ.length
      · rw [if_pos hl, List.getElem?_eq_getElem hl]
        rfl
      · rw [if_neg hl, List.getElem?_eq_none (by omega)]
        rfl
    · rw [if_neg h, ih]
      have e : (j ∈ v :: vs) = (j ∈ vs) := by
        simp only [List.mem_cons, eq_iff_iff]
        exact ⟨fun z => z.resolve_left fun y => h y.symm, .inr⟩
      simp only [e]
theorem wipe_ext {σ σ' : L2.St} {vs is : List Nat} (hs : ∀ i ∈ is, i ∈ vs) (h : ∀ j, j ∉ is → σ'[j]? = (wipe σ vs)[j]?) (hl : σ'.length = (wipe σ vs).length) : wipe σ' vs = wipe σ vs := by
  apply List.ext_getElem?
  intro j
  rw [wipe_get, wipe_get]
  by_cases hj : j ∈ vs
  · rw [if_pos hj, if_pos hj]
    rw [wipe_length] at hl
    by_cases hlt : j < σ.length
    · rw [List.getElem?_eq_getElem hlt, List.getElem?_eq_getElem (by omega)]
      rfl
    · rw [List.getElem?_eq_none (by omega), List.getElem?_eq_none (by omega)]
  · rw [if_neg hj, if_neg hj, h j fun z => hj (hs j z), wipe_get, if_neg hj]
section
variable {K : PySem.W.Frag} {pp : PP} {ps q : Pt} {G H G0 H0 G1 H1 : Hp} {S : Sd} {σ : L2.St}
theorem Sl.wipe1 {v : Nat} (s : Sl K pp G H S σ) : Sl K pp G H (S.set v .un) (σ.set v none) := by
  refine ⟨by simp [s.len], fun j sv e => ?_, fun j l ds es p e1 e2 e3 e4 => ?_⟩
  · by_cases hj : v = j
    · subst hj
      rw [List.getElem?_set] at e
      split at e
      · split at e
        · next hlt =>
          cases e
          refine ⟨none, ?_, True.intro⟩
          rw [List.getElem?_set, if_pos rfl, if_pos (by rw [← s.len]; exact hlt)]
        · cases e
      · next n => exact absurd rfl n
    · rw [List.getElem?_set_ne hj] at e
      obtain ⟨o, h1, h2⟩ := s.each j sv e
      exact ⟨o, by rw [List.getElem?_set_ne hj]; exact h1, h2⟩
  · have nj : v ≠ j := fun z => by
      subst z
      rw [List.getElem?_set] at e1
      split at e1
      · split at e1
        · cases e1
        · cases e1
      · next n => exact absurd rfl n
    have nl : v ≠ l := fun z => by
      subst z
      rw [List.getElem?_set] at e2
      split at e2
      · split at e2
        · cases e2
        · cases e2
      · next n => exact absurd rfl n
    rw [List.getElem?_set_ne nj] at e1 e3
    rw [List.getElem?_set_ne nl] at e2 e4
    exact s.apart j l ds es p e1 e2 e3 e4
theorem Sl.wipe (s : Sl K pp G H S σ) : ∀ vs : List Nat, Sl K pp G H (wipeD S vs) (L2.wipe σ vs)
  | [] => s
  | _ :: vs => (Sl.wipe s vs).wipe1
theorem Go.bump {D : Addr} {o : HO} {xs : List V} (nt : NT o) (hD : H1 D = some (.lst xs)) (g : Go pp q [] G0 H0 G1 H1) (h0 : H0 D = none) (h1 : G1 D = none) (hp : pp.no D) : Go pp q [] G0 H0 G1 (upd H1 D o) := by
  refine ⟨g.gg, ⟨fun b x e => ?_, fun i a ha => ⟨(g.cf.pot i a ha).1, ?_⟩, g.cf.pnd, tab_upd hD rfl g.cf.tb, g.cf.vt, ot_upd nt g.cf.ot⟩, g.fresh, fun b x e hb ho nt => ?_, fun b e => ?_⟩
  · rw [upd_ne (ne_of_none e h1)]
    exact g.cf.ex b x e
  · have hne : a ≠ D := fun z => hp i (z ▸ ha)
    rw [upd_ne hne]
    exact (g.cf.pot i a ha).2
  · rw [upd_ne (ne_of_none e h0)]
    exact g.keep b x e hb ho nt
  · by_cases hb : b = D
    · subst hb
      exact h0
    · rw [upd_ne hb] at e
      exact g.there b e
theorem Go.show {D : Addr} {o : HO} (nt : NT o) (g : Go pp q [] G0 H0 G1 H1) (h0 : H0 D = none) (h1 : G1 D = none) (hp : pp.no D) (hD : H1 D = some o) : Go pp q [] G0 H0 (upd G1 D o) H1 := by
  refine ⟨g.gg.trans (same_new h1), ⟨fun b x e => ?_, fun i a ha => ⟨?_, (g.cf.pot i a ha).2⟩, g.cf.pnd, g.cf.tb, vt_upd nt g.cf.vt, g.cf.ot.mono (same_new h1)⟩, fun b x e n => ?_, g.keep, g.there⟩
  · by_cases hb : b = D
    · subst hb
      rw [upd_same] at e
      cases e
      exact hD
    · rw [upd_ne hb] at e
      exact g.cf.ex b x e
  · have hne : a ≠ D := fun z => hp i (z ▸ ha)
    rw [upd_ne hne]
    exact (g.cf.pot i a ha).1
  · by_cases hb : b = D
    · subst hb
      exact h0
    · rw [upd_ne hb] at e
      exact g.fresh b x e n
theorem Cf.pne {D : Addr} (c : Cf pp ps G H) (h : H D = none) : pp.no D := fun i z => by
  rw [(c.pot i D z).2] at h
  cases h
theorem Go.gnone {D : Addr} {o : HO} (g : Go pp q [] G H G1 H1) (h : G D = none) (hD : H D = some o) : G1 D = none := by
  cases e : G1 D with
  | none => rfl
  | some u =>
    have := g.fresh D u e h
    rw [hD] at this
    cases this
end
def lcStep (t : Tgt) (test : BG) (elt : EG) (S : Sd) (x : PyData) (ps : Pt) : Option (Option PyData × Pt) := match t x S with
  | none => none
  | some S1 => bindP (test S1 ps) fun b p => if b then bindP (elt S1 p) fun y p' => some (some y, p') else some (none, p)
def lcGo (f : PyData → Pt → Option (Option PyData × Pt)) : List PyData → Pt → List PyData → Option (List PyData × Pt)
  | [], ps, acc => some (acc, ps)
  | x :: xs, ps, acc => bindP (f x ps) fun o p => lcGo f xs p (match o with
    | some y => acc ++ [y]
    | none => acc)
def eLc (it : AG) (t : Tgt) (test : BG) (elt : EG) (vs : List Nat) : EG := fun S ps => bindP (it S ps) fun ds p => if fitsL ds then bindP (lcGo (lcStep t test elt (wipeD S vs)) ds p []) fun acc p' => some (.list acc, p') else none
def bYes : BG := fun _ ps => some (true, ps)
abbrev PDTs (X : Cx) (es : List Expr) (g : BG) : Prop := PTs X es (TDT X.K g)
section
variable {X : Cx}
theorem pdts_nil : PDTs X [] bYes := ⟨fun pins s σ H Q I ⟨pp, ps, G, S, b, ps', c, sl, e, k⟩ => by
  cases e
  exact pts_nil.run pins s σ H Q I (k G H (Go.refl c))⟩
theorem pdts_one {c : Expr} {g : BG} (h : PDT X c g) : PDTs X [c] g := pts_one h
theorem lc_data {it : AG} {is : List Nat} {t : Tgt} {test : BG} {elt : EG} {vs : List Nat} (hv : ∀ i ∈ is, i ∈ vs) (K : PySem.W.Frag) (σ : L2.St) (H : Hp) (Q : VK) (h : TD K (eLc it t test elt vs) σ H Q) :
    tLc (tiW K it) (tgD K is t) (TDT K test) (TD K elt) vs σ H Q := by
  obtain ⟨pp, ps, G, S, d, ps', c, s, e, k⟩ := h
  obtain ⟨ds, p1, e1, e⟩ := bindP_inv e
  split at e
  · next hf =>
    obtain ⟨out, p2, e2, e⟩ := bindP_inv e
    cases e
    refine ⟨pp, ps, G, S, ds, p1, c, s, e1, fun J G0 H0 g0 wk D hD => ?_⟩
    have hp : pp.no D := g0.cf.pne hD
    have hG0 : G0 D = none := g0.cf.ex.free hD
    have s0 : Sl K pp G0 H0 (wipeD S vs) (L2.wipe σ vs) := (s.go g0).wipe vs
    refine ⟨fun i m H1 => ∃ q G1 acc accV, Go pp q [] G0 H0 G1 H1 ∧ H1 D = some (.lst accV) ∧ G1 D = none ∧ RvL K pp G1 accV acc ∧ lcGo (lcStep t test elt (wipeD S vs)) (ds.drop i) q acc = some (out, ps') ∧ acc.length ≤ i ∧ m = ds.length - i ∧ i ≤ ds.length,
      ⟨ds.length, p1, G0, [], [], Go.hide g0.cf hD, upd_same, hG0, .nil, by rw [List.drop_zero]; exact e2, Nat.le_refl _, by omega, by omega⟩, fun i m H1 hW => ?_⟩
    obtain ⟨q, G1, acc, accV, ga, hD1, hG1, ra, ef, hla, em, hi⟩ := hW
    have up : Same G0 H1 := ga.gg.trans ga.cf.ex
    by_cases hlt : i < ds.length
    · have ed : ds.drop i = ds[i] :: ds.drop (i + 1) := List.drop_eq_getElem_cons hlt
      rw [ed] at ef
      unfold lcGo at ef
      obtain ⟨o, q1, ex, ef⟩ := bindP_inv ef
      refine .inr ⟨wk.go i H1 up hlt, fun H' => ∃ q2 G2 acc2 accV2, Go pp q2 [] G0 H0 G2 H' ∧ H' D = some (.lst accV2) ∧ G2 D = none ∧ RvL K pp G2 accV2 acc2 ∧ lcGo (lcStep t test elt (wipeD S vs)) (ds.drop (i + 1)) q2 acc2 = some (out, ps') ∧ acc2.length ≤ i + 1, fun H' hn => ?_, fun x H' hy => ?_⟩
      · obtain ⟨q2, G2, acc2, accV2, a1, a2, a3, a4, a5, a6⟩ := hn
        exact ⟨m - 1, by omega, q2, G2, acc2, accV2, a1, a2, a3, a4, a5, a6, by omega, by omega⟩
      · obtain ⟨Gy, gy, rx⟩ := wk.yld i H1 x H' _ G1 q ga.gg ga.cf (List.getElem?_eq_getElem hlt) hy
        have gaY := ga.trans gy
        have hDY := gy.keep D _ hD1 hp (by simp) nt_lst
        have hGY : Gy D = none := gy.gnone hG1 hD1
        have raY := RvL.mono gy.gg _ _ ra
        unfold lcStep at ex
        cases et : t ds[i] (wipeD S vs) with
        | none =>
          rw [et] at ex
          cases ex
        | some S1 =>
          rw [et] at ex
          obtain ⟨b, q2, eb, ex⟩ := bindP_inv ex
          refine ⟨pp, q, Gy, wipeD S vs, _, S1, gaY.cf, s0.go gaY, rx, et, fun σ2 s2 _ hl2 hj => ⟨wipe_ext hv hj hl2, ?_⟩⟩
          refine ⟨pp, q, Gy, S1, b, q2, gaY.cf, s2, eb, fun G2 H2 g2 => ?_⟩
          have hD2 : H2 D = some (.lst accV) := g2.keep D _ hDY hp (by simp) nt_lst
          have hG2 : G2 D = none := g2.gnone hGY hDY
          cases b with
          | true =>
            obtain ⟨y, q3, ey, ex⟩ := bindP_inv ex
            cases ex
            refine iteT ⟨pp, q2, G2, S1, y, _, g2.cf, s2.go g2, ey, fun v G3 H3 g3 r3 => ⟨accV, g3.keep D _ hD2 hp (by simp) nt_lst, ?_, ?_⟩⟩
            · have h1 := fits_size hf
              rw [raY.length]
              omega
            · have hG3 : G3 D = none := g3.gnone hG2 hD2
              exact ⟨_, G3, acc ++ [y], accV ++ [v], Go.bump nt_lst (g3.keep D _ hD2 hp (by simp) nt_lst) ((gaY.trans g2).trans g3) hD hG3 hp, upd_same, hG3, (RvL.mono (g2.gg.trans g3.gg) _ _ raY).app (.cons r3 .nil), ef, by rw [List.length_append]; simp; omega⟩
          | false =>
            cases ex
            exact iteF ⟨_, G2, acc, accV, gaY.trans g2, hD2, hG2, RvL.mono g2.gg _ _ raY, ef, by omega⟩
    · have ei : i = ds.length := by omega
      subst ei
      rw [List.drop_length] at ef
      cases ef
      refine .inl ⟨wk.stop _ H1 up (Nat.le_refl _), ?_⟩
      have gs := Go.show nt_lst ga hD hG1 hp hD1
      exact k _ _ _ (g0.trans gs) (.lst (.inl upd_same) (RvL.mono (same_new hG1) _ _ ra))
  · cases e
theorem pd_lc {elt tg iter : Expr} {ifs : List Expr} {scope : Scope} {own : List (Str × Nat)} {pos : Pos} {it : AG} {is : List Nat} {t : Tgt} {test : BG} {ge : EG} (hc : X.calm = true) (hN : X.N.Nodup) (hi : PDI X tg iter it) (ok : BlkOk X.N X.env.scope scope own)
    (hg : ∀ (s : Shared) (H : Hp) (C : Addr) (cl : List (Str × Addr)) (fp : List Addr), PDG (X.blk s H scope (compEnvC scope cl C X.env) fp) tg is t)
    (ht : ∀ (s : Shared) (H : Hp) (C : Addr) (cl : List (Str × Addr)) (fp : List Addr), PDTs (X.blk s H scope (compEnvC scope cl C X.env) fp) ifs test)
    (he : ∀ (s : Shared) (H : Hp) (C : Addr) (cl : List (Str × Addr)) (fp : List Addr), PD (X.blk s H scope (compEnvC scope cl C X.env) fp) elt ge)
    (hv : ∀ i ∈ is, i ∈ own.map (·.2)) (hs : ∀ x, foldedSetIterable iter X.env x = pure x := by intro _; rfl) : PD X (.ListComp elt [⟨tg, iter, ifs, 0⟩] scope pos) (eLc it t test ge (own.map (·.2))) :=
  pe_imp (pe_lc hc hN hi ok hg ht he hs) fun σ H Q h => lc_data hv X.K σ H Q h
end
end DL
set_option Elab.async false
set_option linter.all false
set_option maxRecDepth 100000
namespace DL
open PySem L2
variable [TBL]
section
variable {K : PySem.W.Frag} {pp : PP} {ps q : Pt} {G H G1 H1 : Hp} {S : Sd} {σ : L2.St}
theorem Sl.setOwn {i : Nat} {p : Addr} {vs : HO} {ds : PyData} (s : Sl K pp G H S σ) (hgg : Same G G1) (hk : ∀ (j : Nat) (es : PyData) (b : Addr), j ≠ i → S[j]? = some (.own es) → σ[j]? = some (some (.ref b)) → b ≠ p ∧ (∀ o, H b = some o → H1 b = some o) ∧ G1 b = none)
    (hp : H1 p = some vs) (hg : G1 p = none) (np : pp.no p) (r : OwnO K pp G1 vs ds) : Sl K pp G1 H1 (S.set i (.own ds)) (σ.set i (some (.ref p))) := by
  refine ⟨by simp [s.len], fun j sv e => ?_, fun j l es fs b e1 e2 e3 e4 => ?_⟩
  · by_cases hj : i = j
    · subst hj
      rw [List.getElem?_set] at e
      split at e
      · split at e
        · next hlt =>
          cases e
          refine ⟨some (.ref p), ?_, p, vs, rfl, hp, hg, np, r⟩
          rw [List.getElem?_set, if_pos rfl, if_pos (by rw [← s.len]; exact hlt)]
        · cases e
      · next n => exact absurd rfl n
    · rw [List.getElem?_set_ne hj] at e
      obtain ⟨o, h1, h2⟩ := s.each j sv e
      refine ⟨o, by rw [List.getElem?_set_ne hj]; exact h1, ?_⟩
      cases sv with
      | un => trivial
      | dat d =>
        obtain ⟨v, rfl, rv⟩ := h2
        exact ⟨v, rfl, Rv.mono hgg _ _ rv⟩
      | own es =>
        obtain ⟨b, ws, rfl, hb, gb, nb, rb⟩ := h2
        obtain ⟨_, k1, k2⟩ := hk j es b (Ne.symm hj) e h1
        exact ⟨b, ws, rfl, k1 _ hb, k2, nb, rb.mono hgg⟩
  · by_cases hj : i = j
    · by_cases hl : i = l
      · exact hj.symm.trans hl
      · subst hj
        rw [List.getElem?_set_ne hl] at e2 e4
        have hb : b = p := by
          rw [List.getElem?_set] at e3
          split at e3
          · split at e3
            · cases e3; rfl
            · cases e3
          · next n => exact absurd rfl n
        exact absurd hb (hk l fs b (Ne.symm hl) e2 e4).1
    · rw [List.getElem?_set_ne hj] at e1 e3
      by_cases hl : i = l
      · subst hl
        have hb : b = p := by
          rw [List.getElem?_set] at e4
          split at e4
          · split at e4
            · cases e4; rfl
            · cases e4
          · next n => exact absurd rfl n
        exact absurd hb (hk j es b (Ne.symm hj) e1 e3).1
      · rw [List.getElem?_set_ne hl] at e2 e4
        exact s.apart j l es fs b e1 e2 e3 e4
theorem Sl.own {i : Nat} {ds : PyData} (s : Sl K pp G H S σ) (e : S[i]? = some (.own ds)) : ∃ p vs, σ[i]? = some (some (.ref p)) ∧ H p = some vs ∧ G p = none ∧ pp.no p ∧ OwnO K pp G vs ds := by
  obtain ⟨o, h1, p, vs, rfl, h2⟩ := s.each i _ e
  exact ⟨p, vs, h1, h2⟩
end
section
variable {X : Cx}
def sNew (i : Nat) : SG := fun S ps => some (.nx (S.set i (.own (.list []))), ps)
theorem pds_new {i : Nat} {x : Str} {pos pos' pos2 : Pos} (hN : X.N.Nodup) (hi : X.N[i]? = some x) (hx : Loc X.env.scope x)
    (hf : X.fn x = true ∨ X.env.scope.names.lookup x = some .local := by first | exact .inl rfl | exact .inr rfl | assumption)
    (hs : swapsWithSole [.Name x pos'] (.List [] pos2) pos.line X.env = pure false := by rfl) (hw : swappedStores [.Name x pos'] (.List [] pos2) X.env = pure none := by rfl) (h1 : (assignEach [.Name x pos'] X.env).map (·.2) = [assign (.Name x pos') X.env] := by rfl) :
    PDS X (.Assign [.Name x pos'] (.List [] pos2) pos) (sNew i) :=
  ps_imp (ps_asg (pe_lst pa_nil) (pg_name hN hi hx hf) hs hw h1) fun D σ H ⟨pp, ps, G, S, r, ps', c, s, e, k⟩ => by
    cases e
    refine ⟨Nat.zero_le _, fun p hp => ?_⟩
    have gh : Go pp ps [] G H G (upd H p (.lst [])) := Go.hide c hp
    have hGp : G p = none := c.ex.free hp
    refine k (σ.set i (some (.ref p))) G (upd H p (.lst [])) ⟨gh.gg, gh.cf, fun b o h n => .inl (gh.fresh b o h n), fun b o h n _ nt => gh.keep b o h n (by simp) nt, fun b hb => ?_, fun b hb => gh.none_of hb⟩ ?_
    · obtain ⟨j, ds, e1, e2⟩ := hb
      by_cases hj : i = j
      · subst hj
        rw [List.getElem?_set] at e2
        split at e2
        · split at e2
          · cases e2
            exact .inl hp
          · cases e2
        · next n => exact absurd rfl n
      · rw [List.getElem?_set_ne hj] at e1 e2
        exact .inr ⟨j, ds, e1, e2⟩
    · refine s.setOwn (Same.refl G) (fun j es b hj e1 e2 => ?_) upd_same hGp (c.pne hp) (show OwnO X.K pp G (.lst []) (.list []) from RvL.nil)
      obtain ⟨b', ws, h1, h2, h3, h4, h5⟩ := s.own e1
      rw [e2] at h1
      cases h1
      exact ⟨ne_of_none h2 hp, fun o ho => same_new hp b o ho, h3⟩
def sApp (i : Nat) (g : EG) : SG := fun S ps => match S[i]? with
  | some (.own (.list ds)) => if decide (ds.length < 16777216) then bindP (g S ps) fun d p => some (.nx (S.set i (.own (.list (ds ++ [d])))), p) else none
  | _ => none
theorem pds_app {i : Nat} {x : Str} {e : Expr} {g : EG} {pn apos cpos pos : Pos} (hN : X.N[i]? = some x) (hv : Vis X.env.scope x) (h : PD X e g) (hd : (x == ("__debug__" : Str)) = false := by decide) (hcd : (x == ("__classdict__" : Str)) = false := by decide)
    (hbase : attributeBase (.Name x pn) "append" X.env (eval (.Name x pn) X.env) = eval (.Name x pn) X.env := by rfl)
    (hfew : ((backTo cpos (starEach [e] X.env)).all (fun x => !x.1) && (backToKw cpos (keywordEach [] X.env)).all (fun x => x.1.isSome) && decide ([e].length + ([] : List Keyword).length + (if ([] : List Keyword).isEmpty then 0 else 1) < 30)) = true := by rfl)
    (hline : (apos.endLine == cpos.line) = true := by rfl) (hst : starEach [e] X.env = (false, eval e X.env) :: starEach [] X.env := by rfl) (hplain : (backTo cpos (starEach [] X.env)).any (·.1) = false := by rfl)
    (hsw : swapsWith (.Call (.Attribute (.Name x pn) "append" apos) [e] [] cpos) none pos.line X.env = pure false := by rfl) :
    PDS X (.Expr (.Call (.Attribute (.Name x pn) "append" apos) [e] [] cpos) pos) (sApp i g) :=
  ps_imp (ps_expr (pe_bm PySem.F.plainAttrs_list PySem.F.slot_list_append PySem.F.type_list_append mt_append (pe_var hN hv hd hcd) (pa_cons h pa_nil hst) hbase hfew hline hst hplain) hsw) fun D σ H ⟨pp, ps, G, S, r, ps', c, s, e, k⟩ => by
    unfold sApp at e
    split at e
    · next ds eo =>
      split at e
      · next hlt =>
        obtain ⟨d, p1, e1, e⟩ := bindP_inv e
        cases e
        obtain ⟨p, ob, hσ, hp, hGp, np, rvo⟩ := s.own eo
        obtain ⟨vs, rfl, rv⟩ := rvo.lst
        refine ⟨.ref p, hσ, .inl ⟨rfl, vs, .inl (.inl hp)⟩, pp, ps, G, S, d, ps', c, s, e1, fun v G1 H1 g1 r1 => ?_⟩
        have hp1 : H1 p = some (.lst vs) := g1.keep p _ hp np (by simp) nt_lst
        have hG1 : G1 p = none := g1.gnone hGp hp
        have hlt' : ds.length < 16777216 := of_decide_eq_true hlt
        refine ⟨p, vs, v, rfl, rfl, hp1, by rw [rv.length, sizeLine_eq]; exact hlt', ?_⟩
        have own_p : Owned S σ p := ⟨i, _, eo, hσ⟩
        have eσ : σ.set i (some (.ref p)) = σ := by
          apply List.ext_getElem?
          intro j
          by_cases hj : i = j
          · subst hj
            rw [List.getElem?_set, if_pos rfl, hσ, if_pos (List.getElem?_eq_some_iff.mp hσ).1]
          · rw [List.getElem?_set_ne hj]
        have sl1 : Sl X.K pp G1 (upd H1 p (.lst (vs ++ [v]))) (S.set i (.own (.list (ds ++ [d])))) (σ.set i (some (.ref p))) := by
          refine (s.go g1).setOwn (Same.refl G1) (fun j es b hj e1 e2 => ?_) upd_same hG1 np (show OwnO X.K pp G1 (.lst (vs ++ [v])) (.list (ds ++ [d])) from (RvL.mono g1.gg _ _ rv).app (.cons r1 .nil))
          have hne : b ≠ p := fun z => by
            subst z
            exact hj (s.apart j i es _ b e1 eo e2 hσ)
          obtain ⟨b', ws, h1, h2, h3, h4, h5⟩ := (s.go g1).own e1
          rw [e2] at h1
          cases h1
          exact ⟨hne, fun o ho => by rw [upd_ne hne]; exact ho, h3⟩
        rw [eσ] at sl1
        refine k σ G1 _ ⟨g1.gg, ⟨fun b o hb => ?_, fun i a ha => ⟨(g1.cf.pot i a ha).1, ?_⟩, g1.cf.pnd, tab_upd hp1 rfl g1.cf.tb, g1.cf.vt, ot_upd nt_lst g1.cf.ot⟩, fun b o hb n => .inl (g1.fresh b o hb n), fun b o hb n no nt => ?_, fun b hb => ?_, fun b hb => ?_⟩ sl1
        · rw [upd_ne (ne_of_none hb hG1)]
          exact g1.cf.ex b o hb
        · have hne : a ≠ p := fun z => np _ (z ▸ ha)
          rw [upd_ne hne]
          exact (g1.cf.pot _ a ha).2
        · have hne : b ≠ p := fun z => no (z ▸ own_p)
          rw [upd_ne hne]
          exact g1.keep b o hb n (by simp) nt
        · obtain ⟨j, es, h1, h2⟩ := hb
          by_cases hj : i = j
          · subst hj
            rw [hσ] at h2
            cases h2
            exact .inr own_p
          · rw [List.getElem?_set_ne hj] at h1
            exact .inr ⟨j, es, h1, h2⟩
        · by_cases hbp : b = p
          · subst hbp
            rw [upd_same] at hb
            cases hb
          · rw [upd_ne hbp] at hb
            exact g1.none_of hb
      · cases e
    · cases e
def frz (i : Nat) (S : Sd) : Sd := match S[i]? with
  | some (.own ds) => S.set i (.dat ds)
  | _ => S
theorem set_self {σ : L2.St} {i : Nat} {o : Option V} (h : σ[i]? = some o) : σ.set i o = σ := by
  apply List.ext_getElem?
  intro j
  by_cases hj : i = j
  · subst hj
    rw [List.getElem?_set, if_pos rfl, h, if_pos (List.getElem?_eq_some_iff.mp h).1]
  · rw [List.getElem?_set_ne hj]
theorem upd_id {H : Hp} {p : Addr} {o : HO} (h : H p = some o) : upd H p o = H := by
  funext b
  by_cases hb : b = p
  · subst hb
    rw [upd_same, h]
  · rw [upd_ne hb]
theorem frz_sl {K : PySem.W.Frag} {pp : PP} {ps : Pt} {G H : Hp} {S : Sd} {σ : L2.St} {i : Nat} {d : PyData} {p : Addr} {ob : HO} (od : Obj) (c : Cf pp ps G H) (s : Sl K pp G H S σ) (eo : S[i]? = some (.own d)) (hσ : σ[i]? = some (some (.ref p))) (hp : H p = some ob) (hG : G p = none) (np : pp.no p) (rv : OwnO K pp G ob d) :
    Cf pp ps (upd G p (viewO od ob)) (upd H p (viewO od ob)) ∧ Sl K pp (upd G p (viewO od ob)) (upd H p (viewO od ob)) (S.set i (.dat d)) σ := by
  have sm : Same G (upd G p (viewO od ob)) := same_new hG
  refine ⟨⟨fun b o e => ?_, fun j a ha => ?_, c.pnd, tab_upd hp (ownB_pl rv.ob) c.tb, vt_upd (nt_view rv.ob) c.vt, (ot_upd (nt_view rv.ob) c.ot).mono sm⟩, ?_⟩
  · by_cases hb : b = p
    · subst hb
      rw [upd_same] at e ⊢
      exact e
    · rw [upd_ne hb] at e ⊢
      exact c.ex b o e
  · have hne : a ≠ p := fun z => np j (z ▸ ha)
    rw [upd_ne hne, upd_ne hne]
    exact c.pot j a ha
  · have s1 : Sl K pp (upd G p (viewO od ob)) (upd H p (viewO od ob)) (S.set i .un) (σ.set i none) := by
      refine ⟨by simp [s.len], fun j sv e => ?_, s.wipe1.apart⟩
      obtain ⟨o, h1, h2⟩ := (s.wipe1 (v := i)).each j sv e
      refine ⟨o, h1, ?_⟩
      cases sv with
      | un => trivial
      | dat d =>
        obtain ⟨v, rfl, r⟩ := h2
        exact ⟨v, rfl, Rv.mono sm _ _ r⟩
      | own es =>
        obtain ⟨b, ws, rfl, hb, gb, nb, rb⟩ := h2
        have hne : b ≠ p := fun z => by
          subst z
          have hj : i ≠ j := fun z => by
            subst z
            rw [List.getElem?_set] at h1
            split at h1
            · split at h1 <;> cases h1
            · next n => exact absurd rfl n
          rw [List.getElem?_set_ne hj] at e h1
          exact hj (s.apart i j d es b eo e hσ h1)
        refine ⟨b, ws, rfl, by rw [upd_ne hne]; exact hb, ?_, nb, rb.mono sm⟩
        rw [upd_ne hne]
        exact gb
    have s2 := s1.set (i := i) (v := .ref p) (d := d) (rv.rv od hG)
    rw [List.set_set, List.set_set, set_self hσ] at s2
    exact s2
theorem lock_own {pins : List (Addr × Obj)} {σ : L2.St} {H : Hp} {st : Shared} {p : Addr} {ob : HO} (J : Inv X pins σ H st) (hp : H p = some ob) (hb : OwnB ob = true) : ∃ od, Inv X pins σ (upd H p (viewO od ob)) st := by
  cases ob with
  | lst xs => exact ⟨default, by
      show Inv X pins σ (upd H p (.lst xs)) st
      rw [upd_id hp]
      exact J⟩
  | dK kvs => exact J.lock hp trivial
  | ins C dx fs => exact ⟨default, by
      show Inv X pins σ (upd H p (.ins C dx fs)) st
      rw [upd_id hp]
      exact J⟩
  | _ => cases hb
theorem unlock_own {pins : List (Addr × Obj)} {σ : L2.St} {H : Hp} {st : Shared} {p : Addr} {ob : HO} {od : Obj} (J : Inv X pins σ H st) (hp : H p = some (viewO od ob)) (hb : OwnB ob = true) (hn : ∀ o' u', X.H_0 p ≠ some (.frz o' u')) : Inv X pins σ (upd H p ob) st := by
  cases ob with
  | lst xs =>
    rw [upd_id (show H p = some (.lst xs) from hp)]
    exact J
  | dK kvs => exact J.unlock hp hn
  | ins C dx fs =>
    rw [upd_id (show H p = some (.ins C dx fs) from hp)]
    exact J
  | _ => cases hb
theorem nofrz_own {pins : List (Addr × Obj)} {σ : L2.St} {H : Hp} {st : Shared} {p : Addr} {ob : HO} (J : Inv X pins σ H st) (hp : H p = some ob) (hb : OwnB ob = true) : ∀ o' u', X.H_0 p ≠ some (.frz o' u') := by
  cases ob with
  | lst xs => exact J.nofrz hp trivial
  | dK kvs => exact J.nofrz hp trivial
  | ins C dx fs => exact J.nofrz hp trivial
  | _ => cases hb
def sFrz (i : Nat) (g : SG) : SG := fun S ps => g (frz i S) ps
theorem pds_frz {i : Nat} {sts : List Stmt} {g : SG} (h : PDSs X sts g) : PDSs X sts (sFrz i g) := ⟨fun pins st σ H D J ⟨pp, ps, G, S, r, ps', c, s, e, k⟩ => by
  unfold sFrz frz at e
  split at e
  · next d eo =>
    obtain ⟨p, ob, hσ, hp, hGp, np, rv⟩ := s.own eo
    obtain ⟨od, J2⟩ := lock_own J hp rv.ob
    obtain ⟨c1, s1⟩ := frz_sl od c s eo hσ hp hGp np rv
    have op : Owned S σ p := ⟨i, d, eo, hσ⟩
    refine h.run pins st σ _ D J2 ⟨pp, ps, _, _, r, ps', c1, s1, e, EndD.back (ps1 := ps) ⟨same_new hGp, c1, fun b o hb n => ?_, fun b o hb _ no _ => ?_, fun b hb => ?_, fun b hb => ?_⟩ k⟩
    · by_cases hbp : b = p
      · subst hbp
        exact .inr op
      · rw [upd_ne hbp, n] at hb
        cases hb
    · have hne : b ≠ p := fun z => no (z ▸ op)
      rw [upd_ne hne]
      exact hb
    · obtain ⟨j, es, h1, h2⟩ := hb
      by_cases hj : i = j
      · subst hj
        rw [List.getElem?_set] at h1
        split at h1
        · split at h1 <;> cases h1
        · next n => exact absurd rfl n
      · rw [List.getElem?_set_ne hj] at h1
        exact .inr ⟨j, es, h1, h2⟩
    · by_cases hbp : b = p
      · subst hbp
        rw [upd_same] at hb
        cases hb
      · rw [upd_ne hbp] at hb
        exact hb
  · exact h.run pins st σ H D J ⟨pp, ps, G, S, r, ps', c, s, e, k⟩⟩
theorem ext_view {ob : HO} {od : Obj} (hb : OwnB ob = true) (φ : Heap → Prop) : viewO od ob ≠ .ext φ := fun z => by
  cases ob <;> first | (cases hb; done) | cases z
theorem OT.out {G H : Hp} {p : Addr} {o : HO} (h : OT G H) (hn : ∀ φ, o ≠ .ext φ) (hp : G p = some o) : OT (fun b => if b = p then none else G b) H := ⟨h.one, fun q hq ps hps pos cv hc => by
  obtain ⟨c, e1, e2⟩ := h.cod q hq ps hps pos cv hc
  refine ⟨c, e1, ?_⟩
  have hne : c ≠ p := fun z => by
    subst z
    rw [hp] at e2
    exact hn _ (Option.some.inj e2)
  show (if c = p then none else G c) = _
  rw [if_neg hne]
  exact e2⟩
theorem go_out {pp : PP} {ps : Pt} {G H G' H' : Hp} {p : Addr} {ob : HO} {od : Obj} (hG : G p = none) (hp : H p = some ob) (hb : OwnB ob = true) (np : pp.no p) (g : Go pp ps [] (upd G p (viewO od ob)) (upd H p (viewO od ob)) G' H') :
    H' p = some (viewO od ob) ∧ Go pp ps [] G H (fun b => if b = p then none else G' b) (upd H' p ob) := by
  have hp' : H' p = some (viewO od ob) := g.keep p _ upd_same np (by simp) (nt_view hb)
  refine ⟨hp', fun b u e => ?_, ⟨fun b u e => ?_, fun j a ha => ?_, g.cf.pnd, tab_upd hp' (pl_view hb) g.cf.tb, fun b ps e => (by
    split at e
    · cases e
    · exact g.cf.vt b ps e), (ot_upd (ownB_nt hb) g.cf.ot).out (ext_view hb) (g.gg p _ upd_same)⟩, fun b u e n => ?_, fun b u e n o nt => ?_, fun b e => ?_⟩
  · have hb : b ≠ p := ne_of_none e hG
    show (if b = p then none else G' b) = some u
    rw [if_neg hb]
    exact g.gg b u (by rw [upd_ne hb]; exact e)
  · split at e
    · cases e
    · next hb =>
      rw [upd_ne hb]
      exact g.cf.ex b u e
  · have hne : a ≠ p := fun z => np j (z ▸ ha)
    refine ⟨?_, ?_⟩
    · show (if a = p then none else G' a) = none
      rw [if_neg hne]
      exact (g.cf.pot j a ha).1
    · rw [upd_ne hne]
      exact (g.cf.pot j a ha).2
  · split at e
    · cases e
    · next hb =>
      have := g.fresh b u e (by rw [upd_ne hb]; exact n)
      rw [upd_ne hb] at this
      exact this
  · by_cases hbp : b = p
    · subst hbp
      rw [hp] at e
      cases e
      exact upd_same
    · rw [upd_ne hbp]
      exact g.keep b u (by rw [upd_ne hbp]; exact e) n o nt
  · by_cases hbp : b = p
    · subst hbp
      rw [upd_same] at e
      cases e
    · rw [upd_ne hbp] at e
      have := g.there b e
      rw [upd_ne hbp] at this
      exact this
def sPar (i j : Nat) (gs : AG) : SG := fun S ps => match gs S ps with
  | some ([x, y], p) => some (.nx ((S.set i (.dat x)).set j (.dat y)), p)
  | _ => none
theorem pds_par {i j : Nat} {x y : Str} {a b : Expr} {gs : AG} {px py pt pos : Pos} {kt k2 pt2} (hc : X.calm = true) (hN : X.N.Nodup) (hi : X.N[i]? = some x) (hj : X.N[j]? = some y) (hij : i ≠ j) (hx : X.env.scope.names.lookup x = some .local) (hy : X.env.scope.names.lookup y = some .local)
    (ha : PDA X [a, b] gs) (hw : swappedStores [.Tuple [.Name x px, .Name y py] kt pt] (.Tuple [a, b] k2 pt2) X.env = pure (some [x, y])) : PDS X (.Assign [.Tuple [.Name x px, .Name y py] kt pt] (.Tuple [a, b] k2 pt2) pos) (sPar i j gs) :=
  ps_imp (ps_par hc hN hi hj hij hx hy ha hw) fun D σ H ⟨pp, ps, G, S, r, ps', c, s, e, k⟩ => by
    unfold sPar at e
    split at e
    · next dx dy p1 e1 =>
      cases e
      refine ⟨pp, ps, G, S, _, _, c, s, e1, fun vs G1 H1 g1 r1 => ?_⟩
      obtain ⟨v, w, rfl, rv, rw'⟩ := rvl_two r1
      refine ⟨v, w, rfl, k _ G1 H1 (g1.toS fun b z => owned_set dat_ne (owned_set dat_ne z)) (((s.go g1).set rv).set rw')⟩
    · cases e
def cutL {α : Type} (xs : List α) (lo hi : Option Int) : List α := (xs.drop (HT.sIx xs.length 0 lo)).take (HT.sIx xs.length xs.length hi - HT.sIx xs.length 0 lo)
theorem cut_rv {K : PySem.W.Frag} {pp : PP} {G : Hp} {xs : List V} {ds : List PyData} (lo hi : Option Int) (r : RvL K pp G xs ds) : RvL K pp G (cutV xs lo hi) (cutL ds lo hi) := by
  unfold cutV cutL
  rw [r.length]
  exact (r.drop _).take _
abbrev OG := Sd → Pt → Option (Option Int × Pt)
def tOD (K : PySem.W.Frag) (g : OG) : TO := fun σ H Q => ∃ (pp : PP) (ps : Pt) (G : Hp) (S : Sd) (o : Option Int) (ps' : Pt), Cf pp ps G H ∧ Sl K pp G H S σ ∧ g S ps = some (o, ps') ∧ ∀ G' H', Go pp ps' [] G H G' H' → Q o H'
abbrev PDO (X : Cx) (e : Option Expr) (g : OG) : Prop := PO X e (tOD X.K g)
theorem po_imp {e : Option Expr} {t t' : TO} (h : PO X e t) (i : ∀ σ H Q, t' σ H Q → t σ H Q) : PO X e t' := ⟨fun pins s σ H Q I q => h.run pins s σ H Q I (i σ H Q q)⟩
def oNone : OG := fun _ ps => some (none, ps)
def oSome (g : EG) : OG := fun S ps => match g S ps with
  | some (.int i, p) => some (some i, p)
  | _ => none
theorem pdo_none : PDO X none oNone := po_imp po_none fun σ H Q ⟨pp, ps, G, S, o, ps', c, s, e, k⟩ => by
  cases e
  exact k G H (Go.refl c)
theorem pdo_some {e : Expr} {g : EG} (h : PD X e g) : PDO X (some e) (oSome g) := po_imp (po_some h) fun σ H Q ⟨pp, ps, G, S, o, ps', c, s, e, k⟩ => by
  unfold oSome at e
  split at e
  · next i p1 e1 =>
    cases e
    exact ⟨pp, ps, G, S, _, _, c, s, e1, fun v G' H' g' r' => ⟨i, rv_int r', k G' H' g'⟩⟩
  · cases e
def slD (x : PyData) (lo hi : Option Int) : Option PyData := match x with
  | .list ds => some (.list (cutL ds lo hi))
  | .tuple ds => some (.tuple (cutL ds lo hi))
  | .str z => if decide (z.length ≤ 16777216) then some (.str (cutS z lo hi)) else none
  | _ => none
def eSl (g : EG) (gl gh : OG) : EG := fun S ps => bindP (g S ps) fun x p => bindP (gl S p) fun l p1 => bindP (gh S p1) fun h p2 => (slD x l h).map fun d => (d, p2)
def rSlD (K : PySem.W.Frag) : V → Option Int → Option Int → Hp → VK → Prop := fun v lo hi H Q => ∃ (pp : PP) (ps : Pt) (G : Hp) (x d : PyData), Cf pp ps G H ∧ Rv K pp G v x ∧ slD x lo hi = some d ∧ ∀ z G' H', Go pp ps [] G H G' H' → Rv K pp G' z d → Q z H'
theorem cut_whole {α : Type} {xs : List α} {lo hi : Option Int} (h : HT.sIx xs.length 0 lo = 0 ∧ HT.sIx xs.length xs.length hi = xs.length) : cutL xs lo hi = xs := by
  unfold cutL
  rw [h.1, h.2]
  simp
theorem sl_data : SlR X (rSlD X.K) := by
  intro pins s σ H x v vl vu lo hi sl Q I rx hs pl pu ⟨pp, ps, G, dx, d, c, r, e, k⟩
  unfold slD at e
  split at e
  · next ds =>
    cases e
    obtain ⟨a, xs, rfl, hx, ha⟩ := rv_lst r
    refine sl_list pins s σ H _ v vl vu lo hi sl Q I rx hs pl pu ⟨a, xs, rfl, cf_l c hx, fun p hp => ?_⟩
    have gl : Go pp ps [] G H (upd G p (.lst (cutV xs lo hi))) (upd H p (.lst (cutV xs lo hi))) := Go.lay c hp
    exact k _ _ _ gl (.lst (.inl upd_same) (RvL.mono gl.gg _ _ (cut_rv lo hi ha)))
  · next ds =>
    cases e
    obtain ⟨a, xs, rfl, hx, ha⟩ := rv_tup r
    refine sl_tupF pins s σ H _ v vl vu lo hi sl Q I rx hs pl pu ⟨a, xs, rfl, cf_t c hx, fun hw => ?_, fun _ p o hp hd => ?_⟩
    · rw [ha.length] at hw
      rw [cut_whole hw] at k
      exact k _ G H (Go.refl c) (.tup hx ha)
    · have gl : Go pp ps [] G H (upd G p (.frz o (.tup (cutV xs lo hi)))) (upd H p (.frz o (.tup (cutV xs lo hi)))) := Go.lay c hp
      exact k _ _ _ gl (.tup (.inl ⟨o, upd_same, hd⟩) (RvL.mono gl.gg _ _ (cut_rv lo hi ha)))
  · next z =>
    obtain ⟨h1, rfl⟩ := ite_inv e
    cases r
    exact sl_str pins s σ H _ v vl vu lo hi sl Q I rx hs pl pu ⟨z, rfl, by rw [sizeLine_eq]; exact of_decide_eq_true h1, k _ G H (Go.refl c) (.str _)⟩
  · cases e
theorem pd_slice {e : Expr} {lo hi : Option Expr} {g : EG} {gl gh : OG} {p2 pos : Pos} (he : PD X e g) (hl : PDO X lo gl) (hh : PDO X hi gh) : PD X (.Subscript e (.Slice lo hi none p2) pos) (eSl g gl gh) :=
  pe_imp (pe_slice sl_data he hl hh) fun σ H Q ⟨pp, ps, G, S, d, ps', c, s, e, k⟩ => by
    obtain ⟨x, p1, e1, e⟩ := bindP_inv e
    obtain ⟨l, p2, e2, e⟩ := bindP_inv e
    obtain ⟨u, p3, e3, e⟩ := bindP_inv e
    obtain ⟨d', e4, e⟩ := map_inv e
    cases e
    exact ⟨pp, ps, G, S, x, p1, c, s, e1, fun v G1 H1 g1 r1 => ⟨pp, p1, G1, S, l, p2, g1.cf, s.go g1, e2, fun G2 H2 g2 => ⟨pp, p2, G2, S, u, _, g2.cf, (s.go g1).go g2, e3, fun G3 H3 g3 =>
      ⟨pp, _, G3, x, d, g3.cf, Rv.mono (g2.gg.trans g3.gg) _ _ r1, e4, fun z G4 H4 g4 r4 => k z G4 H4 (((g1.trans g2).trans g3).trans g4) r4⟩⟩⟩⟩
def potD1 : List (PyData × PyData) → Bool
  | (.none, _) :: _ => true
  | _ => false
def tyName : PyData → Option String
  | .none => some "NoneType"
  | .bool _ => some "bool"
  | .int _ => some "int"
  | .str _ => some "str"
  | .list _ => some "list"
  | .tuple _ => some "tuple"
  | .dict es => if potD1 es then none else some "dict"
inductive TyY (K : PySem.W.Frag) (H : Hp) : V → Value → Prop where
  | old {x : V} {t : Value} (h : TyX K H x t) : TyY K H x t
  | mx {a : Addr} {w : World} {o : Obj} {nks : List NestedKey} {ks vs : List V} (h : H a = some (MxO w a o nks ks vs)) : TyY K H (.ref a) (.type "dict")
theorem kit_ofY {X : Cx} {pins : List (Addr × Obj)} {σ : L2.St} {H : Hp} {s : Shared} {x : V} {u t : Value} (I : Inv X pins σ H s) (rx : RelV x u) (ty : TyY X.K H x t) : ∃ P : Heap → Prop, PySem.W.KitX X.K u t P ∧ P s.heap ∧ u ≠ .builtin "__main__.__loader__#opaque" := by
  cases ty with
  | old h => exact kit_of I rx h
  | @mx a w o nks ks vs h =>
    cases (show u = Value.ref a from rx)
    obtain ⟨⟨h1, h2, _⟩, _, _⟩ := I.hok a _ h
    exact ⟨_, PySem.W.kitx_dict, ⟨o, h1, h2.1⟩, fun z => nomatch z⟩
def rIsiY (K : PySem.W.Frag) : List V → Hp → VK → Prop := fun xs H Q => ∃ (x c : V) (t u : Value) (b : Bool), xs = [x, c] ∧ ClsV c u ∧ TyY K H x t ∧ PySem.W.kitOne K t u = some b ∧ Q (.bl b) H
theorem call_isiY {X : Cx} : CallR X (.builtin "isinstance") (rIsiY X.K) := by
  intro pins s σ H xs us Q I r h
  obtain ⟨x, c, t, u, b, rfl, k, ty, e, q⟩ := h
  obtain ⟨u1, u2, rfl, r1, r2⟩ := vals2 r
  have e2 := k.eq r2
  subst e2
  obtain ⟨P, Z, p, hx⟩ := kit_ofY I r1 ty
  exact PySem.W.kia_one Z I.kIn p e hx fun tk => ⟨.bl b, H, I.tok tk, rfl, q⟩
theorem ty_of {K : PySem.W.Frag} {pp : PP} {ps : Pt} {G H : Hp} {v : V} {d : PyData} {n : String} (c : Cf pp ps G H) (r : Rv K pp G v d) (e : tyName d = some n) : TyY K H v (.type n) := by
  cases d with
  | none => cases e; cases r; exact .old (.base .non)
  | bool b => cases e; cases r; exact .old (.base (.bl b))
  | int i => cases e; cases r; exact .old (.base (.int i))
  | str x => cases e; cases r; exact .old (.base (.str x))
  | list ds =>
    cases e
    obtain ⟨a, xs, rfl, hx, ha⟩ := rv_lst r
    rcases hx with h | ⟨o, h⟩
    · exact .old (.base (.lst (c.ex _ _ h)))
    · exact .old (.base (.frz (c.ex _ _ h)))
  | tuple ds =>
    cases e
    obtain ⟨a, xs, rfl, hx, ha⟩ := rv_tup r
    rcases hx with ⟨o, h, _⟩ | ⟨o, its, n, h1, h2, _⟩
    · exact .old (.fTuple (c.ex _ _ h))
    · exact .old (.kTuple h1 h2)
  | dict l =>
    have e' : (if potD1 l then none else some "dict") = some n := e
    split at e'
    · cases e'
    · next hp =>
      cases e'
      cases r with
      | pot q => exact absurd rfl hp
      | lef q => exact absurd rfl hp
      | slf q => exact absurd rfl hp
      | obj _ _ => exact absurd rfl hp
      | lam _ _ _ => exact absurd rfl hp
      | clo _ _ _ _ _ _ => exact absurd rfl hp
      | exv _ _ => exact absurd rfl hp
      | dkx h1 h2 h3 => exact .mx (c.ex _ _ h1)
      | pr _ _ _ => exact absurd rfl hp
      | dct h1 h2 =>
        obtain ⟨o, h⟩ := h1
        exact .old (.fDict (c.ex _ _ h))
def isiD (T : String) (x : PyData) : Option PyData := match tyName x with
  | some n => (kitB n T).map .bool
  | none => none
theorem pd_isi {T : String} {e : Expr} {y : Str} {g : EG} {p p' pos : Pos} (hg : Gl X "isinstance") (hm : X.mg "isinstance" = none) (hgy : Gl X y) (hmy : X.mg y = none) (hv : bootBuiltins y = some (.type T)) (h : PD X e g) (hn : y ≠ "__name__" := by decide) (hd : (y == ("__debug__" : Str)) = false := by decide)
    (hst : starEach [e, .Name y p'] X.env = (false, eval e X.env) :: starEach [.Name y p'] X.env := by rfl) (hst2 : starEach [.Name y p'] X.env = (false, eval (.Name y p') X.env) :: starEach [] X.env := by rfl) (hpl : (backTo pos (starEach [.Name y p'] X.env)).any (·.1) = false := by rfl) :
    PD X (.Call (.Name "isinstance" p) [e, .Name y p'] [] pos) (eUn (isiD T) g) :=
  pe_imp (pe_callB call_isiY hg hm (by decide +kernel) (pa_cons h (pa_cons (pe_bltn (v := .ty T) hgy hmy hv rfl hn hd) pa_nil hst2) hst) (by decide) (by decide) hst hpl) fun σ H Q ⟨pp, ps, G, S, d, ps', c, s, e, k⟩ => by
    obtain ⟨x, p1, e1, e⟩ := bindP_inv e
    obtain ⟨d', e2, e⟩ := map_inv e
    cases e
    unfold isiD at e2
    split at e2
    · next n en =>
      obtain ⟨b, hb, rfl⟩ := map_inv e2
      exact ⟨pp, ps, G, S, x, _, c, s, e1, fun v G1 H1 g1 r1 => ⟨v, .ty T, _, _, b, rfl, .ty T, ty_of g1.cf r1 en, kit_ty hb, k _ G1 H1 g1 (.bl b)⟩⟩
    · cases e2
end
end DL
set_option Elab.async false
set_option linter.all false
set_option maxRecDepth 100000
namespace DL
open PySem L2
variable [TBL]
section
variable {X : Cx}
structure NewAt (X : Cx) (pins : List (Addr × Obj)) (b : Addr) : Prop where
  ab : b ∈ X.ex ∨ X.s_0.heap.objs.size ≤ b
  loc : b ≠ X.env.locals
  cell : ∀ x c, X.env.cells.lookup x = some c → c ≠ b
  pin : ∀ p ∈ X.pn ++ pins, p.1 ≠ b
  fs : b ∉ X.fs
abbrev lsO (xs : Array Value) (e : Nat) : Obj := PyProof.Rows.seqObj "list" xs e
theorem _root_.L2.Inv.pop {pins : List (Addr × Obj)} {σ : L2.St} {H : Hp} {s : Shared} {x : Addr × Obj} (I : Inv X (x :: pins) σ H s) : Inv X pins σ H s := I.pins_of fun p hp => I.pin p (List.mem_append_right _ (List.mem_cons_of_mem _ hp))
theorem _root_.L2.Inv.sorted {pins : List (Addr × Obj)} {σ : L2.St} {H : Hp} {s : Shared} {a kS : Addr} {h' : Heap} {tk cc : Nat} {out : List Value} {vs : List V} (I : Inv X pins σ H s) (na : NewAt X pins a) (nk : NewAt X pins kS) (ha : H a = none) (hk : H kS = none)
    (keep : ∀ b o, b ≠ a → b ≠ kS → s.heap.get? b = some o → h'.get? b = some o) (ho : h'.get? a = some (lsO out.toArray cc)) (r : Vals vs out) (hz : vs.length ≤ sizeLine) : Inv X pins σ (upd H a (.lst vs)) { s with heap := h', toks := tk } := by
  have nea : ∀ b u, H b = some u → b ≠ a ∧ b ≠ kS := fun b u e => ⟨ne_of_none e ha, ne_of_none e hk⟩
  have nin : ∀ {b : Addr}, b ∉ [a, kS] → b ≠ a ∧ b ≠ kS := fun {b} h => by simpa using h
  refine I.step (g' := s.gens) (d' := s.drawn) (ch := [a, kS]) (fun b hb => ?_) (fun b o _ _ hc e _ => keep b o (nin hc).1 (nin hc).2 e) (fun b o _ _ hc e _ => ⟨o.slots, keep b o (nin hc).1 (nin hc).2 e⟩) (fun b o hc _ n => by rw [upd_ne (nin hc).1]; exact n)
    (fun b o hc e => ⟨o, keep b o (nin hc).1 (nin hc).2 e⟩) (fun b xs e => by rw [upd_ne (nea b _ e).1]; exact e) (fun b o u e => by rw [upd_ne (nea b _ e).1]; exact e) (fun b ps e => ⟨#[], by rw [upd_ne (nea b _ e).1, e]; simp⟩) (fun m hm => ?_) (fun b u e => ?_) I.bare
  · rcases List.mem_cons.mp hb with rfl | hb
    · exact ⟨na.ab, na.loc, na.cell, na.pin⟩
    · rcases List.mem_cons.mp hb with rfl | hb
      · exact ⟨nk.ab, nk.loc, nk.cell, nk.pin⟩
      · cases hb
  · obtain ⟨o, es, ep, ho', rr⟩ := hm
    exact ⟨o, es, ep, keep _ o na.loc.symm nk.loc.symm ho', rr⟩
  · by_cases hb : b = a
    · subst hb
      rw [upd_same] at e
      cases e
      exact ⟨hz, out, cc, r, ho⟩
    · rw [upd_ne hb] at e
      refine (I.hok b u e).stay (fun c v hc q => ?_) (fun c q => by rw [upd_ne (nea c _ q).1]; exact q) fun c xs q => by rw [upd_ne (nea c _ q).1]; exact q
      rcases hc with rfl | hc
      · exact keep _ v (nea _ _ e).1 (nea _ _ e).2 q
      · exact keep _ v (nea _ _ hc).1 (nea _ _ hc).2 q
end
end DL
set_option Elab.async false
set_option linter.all false
set_option maxRecDepth 100000
namespace DL
open PySem L2
variable [TBL]
section
variable {X : Cx}
end
end DL
set_option Elab.async false
set_option linter.all false
set_option maxRecDepth 100000
namespace DL
open PySem L2
variable [TBL]
section
variable {X : Cx}
end
end DL
set_option Elab.async false
set_option linter.all false
set_option maxRecDepth 100000
namespace DL
open PySem L2
variable [TBL]
def isPot : PyData → Bool
  | .dict [(.none, .none), (.none, .none)] => true
  | _ => false
theorem isPot_eq {d : PyData} (h : isPot d = true) : d = potD := by
  unfold isPot at h
  split at h
  · rfl
  · cases h
def drawV (m : Int) (ps : Pt) : Int := if 0 < ps.1 then ps.1 % m else ((ps.2.1 * 39373 + 12227) % 2147483629 * ((ps.2.1 * 39373 + 12227) % 2147483629) % 2147483563 / 13) % m
def drawS (m : Int) (ps : Pt) : Pt := if 0 < ps.1 then (ps.1 / m, ps.2) else (ps.1, (ps.2.1 * 39373 + 12227) % 2147483629, ps.2.2)
theorem rv_pot {K : PySem.W.Frag} {pp : PP} {G : Hp} {v : V} (h : Rv K pp G v potD) : ∃ a, v = .ref a ∧ pp 0 = some a := by
  unfold potD at h
  cases h with
  | pot e => exact ⟨_, rfl, e⟩
  | dct _ h =>
    generalize q : PyData.none = z at h
    cases h with
    | @cons k v kvs d es a b => cases k <;> cases q
  | dkx _ h2 _ =>
    exfalso
    obtain ⟨l, z⟩ := mxOk_head h2.ok
    cases z
theorem Go.mut {pp : PP} {ps ps' : Pt} {G H : Hp} {i : Nat} {a : Addr} {xs : List V} (c : Cf pp ps G H) (ha : pp i = some a) (e1 : atP ps' i = .lst xs) (e2 : ∀ j b, pp j = some b → j ≠ i → atP ps' j = atP ps j) : Go pp ps' [] G H G (upd H a (.lst xs)) := by
  have hG : G a = none := (c.pot i a ha).1
  obtain ⟨xs0, ex0⟩ := atP_lst ps i
  have hH := (c.pot i a ha).2
  rw [ex0] at hH
  refine ⟨Same.refl G, ⟨fun b o e => ?_, fun j b hb => ?_, c.pnd, tab_upd hH rfl c.tb, c.vt, ot_upd nt_lst c.ot⟩, fun b o e n => absurd (n.symm.trans e) (by simp), fun b o e hb _ _ => ?_, fun b e => ?_⟩
  · rw [upd_ne (ne_of_none e hG)]
    exact c.ex b o e
  · by_cases hj : j = i
    · subst hj
      rw [ha] at hb
      cases hb
      rw [e1]
      exact ⟨hG, upd_same⟩
    · have hne : b ≠ a := fun z => hj (c.pnd j i a (z ▸ hb) ha)
      rw [upd_ne hne, e2 j b hb hj]
      exact c.pot j b hb
  · have hne : b ≠ a := fun z => hb i (z ▸ ha)
    rw [upd_ne hne]
    exact e
  · by_cases hb : b = a
    · subst hb
      rw [upd_same] at e
      cases e
    · rw [upd_ne hb] at e
      exact e
theorem Go.pot {pp : PP} {ps ps' : Pt} {G H : Hp} {a : Addr} (c : Cf pp ps G H) (ha : pp 0 = some a) (h : ps'.2.2 = ps.2.2) : Go pp ps' [] G H G (upd H a (.lst [.int ps'.1, .int ps'.2.1])) :=
  Go.mut c ha rfl fun j b hb hj => by
    match j with
    | 0 => exact absurd rfl hj
    | 1 =>
      show HO.lst [.int ps'.2.2] = HO.lst [.int ps.2.2]
      rw [h]
    | j + 2 => rfl
theorem Go.lef {pp : PP} {ps : Pt} {G H : Hp} {a : Addr} (n : Int) (c : Cf pp ps G H) (ha : pp 1 = some a) : Go pp (ps.1, ps.2.1, n) [] G H G (upd H a (.lst [.int n])) :=
  Go.mut (ps' := (ps.1, ps.2.1, n)) c ha rfl fun j b hb hj => by
    match j with
    | 0 => rfl
    | 1 => exact absurd rfl hj
    | j + 2 => rfl
theorem drawS_lef (m : Int) (ps : Pt) : (drawS m ps).2.2 = ps.2.2 := by
  unfold drawS
  split <;> rfl
end DL
set_option Elab.async false
set_option linter.all false
set_option maxRecDepth 100000
namespace DL
open PySem L2
variable [TBL]
mutual
def freeD (I : Nat → Bool) : PyData → Bool
  | .none => true
  | .bool _ => true
  | .int _ => true
  | .str _ => true
  | .list ds => freeL I ds
  | .tuple ds => freeL I ds
  | .dict es => freeK I es
def freeL (I : Nat → Bool) : List PyData → Bool
  | [] => true
  | d :: ds => freeD I d && freeL I ds
def freeK (I : Nat → Bool) : List (PyData × PyData) → Bool
  | [] => true
  | [(.none, .none), (.none, .none)] => !I 0
  | [(.none, .none), (.none, .none), (.none, .none)] => !I 1
  | [(.none, .none)] => !I 2
  | [(.none, .str _), (.none, .tuple ds)] => freeL I ds
  | [(.none, .str _), (.none, .list ds)] => freeL I ds
  | [(.none, .int _), (.none, .tuple _)] => true
  | [(.none, .int _), (.none, .list ds)] => freeL I ds
  | (.none, _) :: _ => false
  | (_, d) :: es => freeD I d && freeK I es
end
abbrev freeA := freeD fun _ => true
mutual
def potFree : PyData → Bool
  | .none => true
  | .bool _ => true
  | .int _ => true
  | .str _ => true
  | .list ds => potFreeL ds
  | .tuple ds => potFreeL ds
  | .dict es => potFreeK es
def potFreeL : List PyData → Bool
  | [] => true
  | d :: ds => potFree d && potFreeL ds
def potFreeK : List (PyData × PyData) → Bool
  | [] => true
  | (.none, _) :: _ => false
  | (_, d) :: es => potFree d && potFreeK es
end
mutual
theorem pot_of_lay : ∀ (d : PyData), d.canLay0 = true → potFree d = true
  | .none, _ => rfl
  | .bool _, _ => rfl
  | .int _, _ => rfl
  | .str _, _ => rfl
  | .list ds, h => by
    unfold potFree
    exact potL_of_lay ds (by simpa only [PyData.canLay0] using h)
  | .tuple ds, h => by
    unfold potFree
    exact potL_of_lay ds (by simpa only [PyData.canLay0] using h)
  | .dict es, h => by simp [PyData.canLay0] at h
theorem potL_of_lay : ∀ (ds : List PyData), PyData.canLayAll0 ds = true → potFreeL ds = true
  | [], _ => by simp only [potFreeL]
  | d :: ds, h => by
    have f' : d.canLay0 = true ∧ PyData.canLayAll0 ds = true := by simpa only [PyData.canLayAll0, Bool.and_eq_true] using h
    unfold potFreeL
    rw [pot_of_lay d f'.1, potL_of_lay ds f'.2]
    rfl
end
section
variable {I : Nat → Bool} {K : PySem.W.Frag} {pp pp' : PP} {G G' H H' : Hp} {S S' : Sd} {σ σ' : L2.St}
mutual
theorem Rv.swapI (hI : ∀ i, I i = false → pp' i = pp i) (hq2 : I 2 = false → pp'.s = pp.s) : ∀ (d : PyData) (v : V), freeD I d = true → Rv K pp G v d → Rv K pp' G v d
  | .none, _, _, h => by cases h; exact .non
  | .bool b, _, _, h => by cases h; exact .bl b
  | .int i, _, _, h => by cases h; exact .int i
  | .str x, _, _, h => by cases h; exact .str x
  | .list ds, _, f, h => by
    cases h with
    | lst hs ha => exact .lst hs (RvL.swapI hI hq2 ds _ (by simpa only [freeD] using f) ha)
  | .tuple ds, _, f, h => by
    cases h with
    | tup hs ha => exact .tup hs (RvL.swapI hI hq2 ds _ (by simpa only [freeD] using f) ha)
  | .dict kvs, _, f, h => by
    cases h with
    | pot q =>
      have f' : I 0 = false := by simpa [freeD, freeK] using f
      exact .pot ((hI 0 f').trans q)
    | lef q =>
      have f' : I 1 = false := by simpa [freeD, freeK] using f
      exact .lef ((hI 1 f').trans q)
    | slf q =>
      have f' : I 2 = false := by simpa [freeD, freeK] using f
      exact .slf ((hq2 f').trans q)
    | dct hs ha => exact .dct hs (RvK.swapI hI hq2 kvs _ (by simpa only [freeD] using f) ha)
    | pr _ _ _ => simp [freeD, freeK] at f
    | obj ho ha => exact .obj ho (RvL.swapI hI hq2 _ _ (by simpa [freeD, freeK] using f) ha)
    | lam h1 h2 h3 => exact .lam h1 h2 h3
    | clo h1 h2 h3 h4 ha hm => exact .clo h1 h2 h3 h4 (RvL.swapI hI hq2 _ _ (by simpa [freeD, freeK, cloD] using f) ha) hm
    | exv ho ha => exact .exv ho (RvL.swapI hI hq2 _ _ (by simpa [freeD, freeK] using f) ha)
    | dkx h1 h2 h3 => exact .dkx h1 h2 (RvX.swapI hI hq2 kvs _ _ h2.keys (by simpa only [freeD] using f) h3)
theorem RvX.swapI (hI : ∀ i, I i = false → pp' i = pp i) (hq2 : I 2 = false → pp'.s = pp.s) : ∀ (es : List (PyData × PyData)) (ks vs : List V), (∀ e ∈ es, keyX e.1 = true) → freeK I es = true → RvX K pp G ks vs es → RvX K pp' G ks vs es
  | [], _, _, _, _, h => by cases h; exact .nil
  | (kd, d) :: es, _, _, hk, f, h => by
    cases h with
    | cons a b c =>
      obtain ⟨l, k, e, q, _⟩ := keyX_inv (hk (kd, d) List.mem_cons_self)
      have e : kd = .tuple l := e
      subst e
      have f' : freeD I d = true ∧ freeK I es = true := by simpa [freeK] using f
      exact .cons (rv_plain _ _ q a) (Rv.swapI hI hq2 d _ f'.1 b) (RvX.swapI hI hq2 es _ _ (fun e he => hk e (List.mem_cons_of_mem _ he)) f'.2 c)
theorem RvL.swapI (hI : ∀ i, I i = false → pp' i = pp i) (hq2 : I 2 = false → pp'.s = pp.s) : ∀ (ds : List PyData) (vs : List V), freeL I ds = true → RvL K pp G vs ds → RvL K pp' G vs ds
  | [], _, _, h => by cases h; exact .nil
  | d :: ds, _, f, h => by
    have f' : freeD I d = true ∧ freeL I ds = true := by simpa only [freeL, Bool.and_eq_true] using f
    cases h with
    | cons a b => exact .cons (Rv.swapI hI hq2 d _ f'.1 a) (RvL.swapI hI hq2 ds _ f'.2 b)
theorem RvK.swapI (hI : ∀ i, I i = false → pp' i = pp i) (hq2 : I 2 = false → pp'.s = pp.s) : ∀ (es : List (PyData × PyData)) (kvs : List (Key × V)), freeK I es = true → RvK K pp G kvs es → RvK K pp' G kvs es
  | [], _, _, h => by cases h; exact .nil
  | (kd, d) :: es, _, f, h => by
    cases h with
    | @cons k v kvs _ _ a b =>
      have f' : freeD I d = true ∧ freeK I es = true := by
        cases k <;> simpa [keyD, freeK] using f
      exact .cons (Rv.swapI hI hq2 d _ f'.1 a) (RvK.swapI hI hq2 es _ f'.2 b)
end
theorem Rv.swap (d : PyData) (v : V) (f : freeA d = true) (h : Rv K pp G v d) : Rv K pp' G v d := Rv.swapI (I := fun _ => true) (fun _ z => by cases z) (fun z => by cases z) d v f h
theorem OwnO.swapI (hI : ∀ i, I i = false → pp' i = pp i) (hq2 : I 2 = false → pp'.s = pp.s) {o : HO} {d : PyData} (hf : freeD I d = true) (h : OwnO K pp G o d) : OwnO K pp' G o d := by
  unfold OwnO at h ⊢
  split at h
  · exact RvL.swapI hI hq2 _ _ (by simpa only [freeD] using hf) h
  · have hf' := hf
    unfold freeD at hf'
    exact RvK.swapI hI hq2 _ _ hf' h
  · obtain ⟨c, ds, vs, rfl, h2, h3, h4, h5⟩ := h
    exact ⟨c, ds, vs, rfl, h2, h3, h4, RvL.swapI hI hq2 _ _ (by simpa [freeD, freeK] using hf) h5⟩
  · exact h.elim
end
def spN (K : PySem.W.Frag) (n : Nat) (fn : List PyData → Pt → Option (List PyData × Pt)) : Sp := fun vs H Q _ => ∃ (pp : PP) (ps : Pt) (G : Hp) (ds es : List PyData) (ps' : Pt), ds.length = n ∧ Cf pp ps G H ∧ RvL K pp G vs ds ∧ fn ds ps = some (es, ps') ∧
  ∀ p us G' H', Go pp ps' [] G H G' H' → H p = none → G' p = none → H' p = some (.lst us) → RvL K pp G' us es → Q (.ref p) H'
abbrev FnN (P : Program) (w : World) (K : PySem.W.Frag) (mg : Str → Option Value) (base : Heap) (k : Nat) (f : Addr) (fd : FuncData) (ps : List Str) (fn : List PyData → Pt → Option (List PyData × Pt)) : Prop := FnG P w K mg base k f fd ps (spN K ps.length fn)
section
variable {X : Cx}
theorem Owned.ne {K : PySem.W.Frag} {pp : PP} {G H : Hp} {S : Sd} {σ : L2.St} {b : Addr} (s : Sl K pp G H S σ) (h : Owned S σ b) : pp.no b ∧ G b = none ∧ ∃ o, H b = some o := by
  obtain ⟨i, ds, h1, h2⟩ := h
  obtain ⟨p, vs, h3, h4, h5, h6, _⟩ := s.own h1
  rw [h2] at h3
  cases h3
  exact ⟨h6, h5, _, h4⟩
theorem GoS.back {K : PySem.W.Frag} {pp pp' : PP} {ps q' ps' : Pt} {S S1 S' : Sd} {σ σ1 σ' : L2.St} {G H G1 H1 G' H' : Hp} (c : Cf pp ps G1 H1) (s1 : Sl K pp G1 H1 S σ) (hat : ∀ i a, pp i = some a → (pp' i = some a ∧ atP ps' i = atP q' i) ∨ (pp'.no a ∧ atP ps' i = atP ps i)) (hnew : ∀ i a, pp' i = some a → pp i = some a ∨ H a = none)
    (ho : ∀ b, Owned S1 σ1 b → Owned S σ b) (g : GoS pp' q' S1 σ1 G1 H1 S' σ' G' H') (g0 : Go pp ps [] G H G1 H1) (sl : Sl K pp G H S σ) :
    GoS pp ps' S σ G H S' σ' G' H' := by
  refine ⟨g0.gg.trans g.gg, ⟨g.cf.ex, fun i a ha => ?_, c.pnd, g.cf.tb, g.cf.vt, g.cf.ot⟩, fun b o e n => ?_, fun b o e hb hn nt => ?_, fun b z => ?_, fun b z => g0.none_of (g.there b z)⟩
  · rcases hat i a ha with ⟨h1, h2⟩ | ⟨h1, h2⟩
    · rw [h2]
      exact g.cf.pot i a h1
    · obtain ⟨a1, a2⟩ := c.pot i a ha
      have no : ¬ Owned S σ a := fun z => (Owned.ne s1 z).1 i ha
      obtain ⟨xs, ex⟩ := atP_lst ps i
      rw [h2]
      refine ⟨?_, g.keep a _ a2 h1 (fun z => no (ho a z)) (by rw [ex]; exact nt_lst)⟩
      cases e : G' a with
      | none => rfl
      | some o =>
        rcases g.fresh a o e a1 with z | z
        · rw [a2] at z
          cases z
        · exact absurd (ho a z) no
  · cases q : G1 b with
    | some u => exact .inl (g0.fresh b u q n)
    | none =>
      rcases g.fresh b o e q with z | z
      · exact .inl (g0.none_of z)
      · exact .inr (ho b z)
  · refine g.keep b o (g0.keep b o e hb (by simp) nt) (fun i z => ?_) (fun z => hn (ho b z)) nt
    rcases hnew i b z with y | y
    · exact hb i y
    · rw [e] at y
      cases y
  · rcases g.own b z with y | y
    · exact .inl (g0.none_of y)
    · exact .inr (ho b y)
def runN (n : Nat) (pre : SG) (gs : AG) (ds : List PyData) (ps : Pt) : Option (List PyData × Pt) := match pre (startD n ds) ps with
  | some (.nx S, p) => bindP (gs S p) fun es p' => if fitsL es then some (es, p') else none
  | _ => none
theorem fn_new {P : Program} {w : World} {K : PySem.W.Frag} {mg : Str → Option Value} {base : Heap} {x qual : Str} {st s1 : Stmt} {f : Addr} {fd : FuncData} {N ps : List Str} {k : Nat} {pre : SG} {gs : AG} {es : List Expr} {p1 p2 : Pos} (F : Fun K x qual st f fd) (S : FnScope N ps (defScope st)) (hn : ps.length ≤ N.length)
    (hb : defBody st = [s1, .Return (some (.List es p1)) p2])
    (h1 : ∀ (cdv : Value) (A : Around) (outer : List Env) (s : Shared) (H : Hp) (E : XK), Rm k (A.deeper (PyProof.Rows.envOfC qual (defScope st) s.heap.objs.size f cdv)) → PDS (cxOf CX0 P w K mg base N qual (defScope st) f cdv A outer s H E).nox s1 pre)
    (h2 : ∀ (cdv : Value) (A : Around) (outer : List Env) (s : Shared) (H : Hp) (E : XK), Rm k (A.deeper (PyProof.Rows.envOfC qual (defScope st) s.heap.objs.size f cdv)) → PDA (cxOf CX0 P w K mg base N qual (defScope st) f cdv A outer s H E).nox es gs) :
    FnN P w K mg base (k + 1) f fd ps (runN N.length pre gs) := by
  refine ok_g F S (fun vs H Q E h => ?_) (fun cdv A outer s H vs Q E hr h => ?_)
  · obtain ⟨pp, p, G, ds, d, p', hl, c, r, e, q⟩ := h
    rw [r.length]
    exact hl
  · obtain ⟨pp, p, G, ds, d, p', hl, c, r, e, q⟩ := h
    rw [hb]
    refine ⟨_, pss_cons (h1 cdv A outer s H E hr) (pss_one (ps_ret (pe_lst (h2 cdv A outer s H E hr)))), ?_⟩
    have hvl : vs.length ≤ N.length := by
      rw [r.length, hl]
      exact hn
    unfold runN at e
    split at e
    · next S1 pm eg =>
      obtain ⟨es', pn, e2, e⟩ := bindP_inv e
      obtain ⟨hf, e⟩ := ite_inv e
      cases e
      refine ⟨pp, p, G, _, _, _, c, sl_start r hvl, eg, fun σ' G' H' g' s' => ⟨pp, pm, G', S1, d, _, g'.cf, s', e2, fun us G2 H2 g2 r2 => ⟨by rw [r2.length]; exact fits_size hf, fun pa hp => ?_⟩⟩⟩
      have g0 : Go pp pm [] G H G' H' := g'.toGo fun b => start_own
      have gh : Go pp p' [] G2 H2 G2 (upd H2 pa (.lst us)) := Go.hide g2.cf hp
      exact q pa us G2 _ ((g0.trans g2).trans gh) ((g0.trans g2).none_of hp) (g2.cf.ex.free hp) upd_same r2
    · cases e
end
end DL
set_option Elab.async false
set_option linter.all false
set_option maxRecDepth 100000
namespace DL
open PySem L2
variable [TBL]
section
variable {X : Cx}
def untab (H1 H2 : Hp) : Hp := fun b => match H2 b with
  | some (.tbl ps) => if (H1 b).isSome then some (.tbl ps) else none
  | o => o
theorem untab_nt {H1 H2 : Hp} {b : Addr} {o : HO} (h : H2 b = some o) (nt : NT o) : untab H1 H2 b = some o := by
  unfold untab
  rw [h]
  cases o with
  | tbl ps => exact absurd rfl (nt ps)
  | _ => rfl
theorem untab_some {H1 H2 : Hp} {b : Addr} {o : HO} (h : untab H1 H2 b = some o) : H2 b = some o := by
  unfold untab at h
  split at h
  · next ps e =>
    split at h
    · cases h
      exact e
    · cases h
  · exact h
theorem untab_old {H1 H2 : Hp} {b : Addr} {ps : Array Value} (h : H2 b = some (.tbl ps)) (h1 : (H1 b).isSome = true) : untab H1 H2 b = some (.tbl ps) := by
  unfold untab
  rw [h]
  exact if_pos h1
theorem untab_none {H1 H2 : Hp} {b : Addr} (h : H2 b = none) : untab H1 H2 b = none := by
  unfold untab
  rw [h]
theorem _root_.L2.Inv.untab {pins : List (Addr × Obj)} {σ : L2.St} {H1 H2 : Hp} {s1 s2 : Shared} (I1 : Inv X pins σ H1 s1) (I : Inv X pins σ H2 s2) : Inv X pins σ (untab H1 H2) s2 := by
  refine ⟨I.ok, I.os, I.bare, ⟨I.base.keep, I.base.slot, fun b o e n hx => untab_none (I.base.free b o e n hx), I.base.there, fun b xs e => untab_nt (I.base.tups b xs e) nt_tup, fun b o u e => untab_nt (I.base.frzs b o u e) fun ps z => (by cases z), fun b ps e => ?_⟩, I.loc, I.cell, untab_none I.free, fun x c e => untab_none (I.freeC x c e), fun p hp => ?_, fun a o e => ?_, I.len⟩
  · obtain ⟨m1, h1⟩ := I1.base.tbls b ps e
    obtain ⟨m2, h2⟩ := I.base.tbls b ps e
    exact ⟨m2, untab_old h2 (by rw [h1]; rfl)⟩
  · obtain ⟨a, b, c⟩ := I.pin p hp
    exact ⟨a, untab_none b, c⟩
  · exact (I.hok a o (untab_some e)).stay (fun _ _ _ q => q) (fun b q => untab_nt q fun ps z => (by cases z)) fun b xs q => untab_nt q nt_tup
section
variable {pins : List (Addr × Obj)} {σ : L2.St} {H : Hp} {s : Shared}
def Told1 (H H1 : Hp) (c' : Addr) (q : Str) : Prop := ∀ p ∈ TBL.T, ∀ ps', H1 p.1 = some (.tbl ps') → ∀ (pos : Pos) (cv : Value), codeAmong pos ps'.toList = some cv → (cv = .ref c' ∧ p.2 = q) ∨ ∃ ps, H p.1 = some (.tbl ps) ∧ codeAmong pos ps.toList = some cv
def New1 (H : Hp) (c' : Addr) (q : Str) : Prop := H c' = none ∨ ∃ p ∈ TBL.T, p.2 = q ∧ ∃ (ps : Array Value) (pos : Pos), H p.1 = some (.tbl ps) ∧ codeAmong pos ps.toList = some (.ref c')
theorem lamO_ok {P : Program} {w : World} {H : Hp} {h : Heap} {f c' : Addr} {lc : LamC} {cl : List (Str × Addr)} {pm ctv : Value} (e : h.get? f = some (PySem.W.kla_obj "<lambda>" lc.qual lc.params lc.body lc.scope cl pm c' ctv)) : ObjOk P w H h f (LamO f lc cl c') :=
  ⟨⟨pm, ctv, e⟩, ⟨_, e⟩, fun h1 h2 ⟨pm, ctv, z⟩ st => ⟨pm, ctv, st _ z⟩⟩
theorem lam_make3 {c P : Addr} {params : Arguments} {body : Expr} {scope : Scope} {pos : Pos} {E : Value → Shared → Prop} {Q : Value → Shared → Prop} (I : Inv X pins σ H s) (TB : LamX.TabB X.base X.mg c P) (hcode : X.env.code = .ref c)
    (hm : (P, X.env.qual ++ "<lambda>") ∈ TBL.T) (hu : ∀ p ∈ TBL.T, p.1 = P → p.2 = X.env.qual ++ "<lambda>") (hT : LamX.Tabs TBL.T H) (hdef : defaultsOf params X.env = ([], [])) (hfree : ∀ y ∈ scope.names, y.2 = .free → ∃ c, X.env.cells.lookup y.1 = some c)
    (h : ∀ (f c' : Addr) (pm ctv : Value) (H1 : Hp) (s' : Shared), Inv X pins σ H1 s' → LamX.ExtN H H1 → LamX.Tabs TBL.T H1 →
      s'.heap.get? f = some (PySem.W.kla_obj "<lambda>" (X.env.qual ++ "<lambda>") params body scope (cloFrom X.env.cells scope.names []) pm c' ctv) → H1 f = none → f ∉ frs X.stack → H1 c' = some (LamX.CodeO c' (X.env.qual ++ "<lambda>")) →
      H f = none → Inv X pins σ (upd H1 f (LamO f ⟨params, body, scope, X.env.qual ++ "<lambda>"⟩ (cloFrom X.env.cells scope.names []) c')) s' → New1 H c' (X.env.qual ++ "<lambda>") → Told1 H H1 c' (X.env.qual ++ "<lambda>") → Q (.ref f) s') :
    wpAny (model X.prog X.w) X.A (eval (.Lambda params body scope pos) X.env) Q E s := by
  obtain ⟨ps, hP, ht, ha⟩ := hT _ hm
  have bP : s.heap.BuiltinsAt X.mg P := TB.bm.keeps I.bk
  have hP' : s.heap.get? P = some { cls := .none, data := .fields ps } := I.hok P _ hP
  have nofr : ∀ f, s.heap.objs.size ≤ f → f ∉ frs X.stack := fun f hf z => by
    rcases List.mem_cons.mp (I.stkSub _ z) with e | e
    · have h1 := I.lt
      rw [← e] at h1
      exact Nat.lt_irrefl _ (Nat.lt_of_lt_of_le h1 hf)
    · exact I.nofs hf e
  refine PySem.W.kla_eval hdef ?_
  cases hc : codeAmong pos ps.toList with
  | some cv =>
    obtain ⟨c', rfl, hco⟩ := ha pos cv hc
    refine PySem.W.kla_makeFunctionHit (mg := X.mg) (c := c) (P := P) (ps := ps) (closure_ok hfree) I.ok.glob (I.mod.glob.keeps I.bk) hcode (TB.code.keeps I.bk) hP' ht hc bP fun ctv h' tk hx hsz => ?_
    have I1 : Inv X pins σ H { s with heap := h'.push (PySem.W.kla_obj "<lambda>" (X.env.qual ++ "<lambda>") params body scope (cloFrom X.env.cells scope.names []) ((X.mg "__name__").getD .none) c' ctv), toks := tk } := I.kept fun b o e => Heap.get?_push_of_some _ (hx b o e)
    refine h h'.objs.size c' ((X.mg "__name__").getD .none) ctv H _ I1 (LamX.ExtN.refl H) hT (Heap.get?_push_size _ rfl) (I.hok.fresh hsz) (nofr _ hsz) hco (I.hok.fresh hsz) ?_ (.inr ⟨_, hm, rfl, ps, pos, hP, hc⟩) fun p _ ps' e pos' cv ec => .inr ⟨ps', e, ec⟩
    exact I.laid (a := h'.objs.size) (t' := tk) (fun b o e => Heap.get?_push_of_some _ (hx b o e)) hsz (lamO_ok (Heap.get?_push_size _ rfl))
  | none =>
    refine PySem.W.kla_makeFunction (mg := X.mg) (c := c) (P := P) (ps := ps) (closure_ok hfree) I.ok.glob (I.mod.glob.keeps I.bk) hcode (TB.code.keeps I.bk) hP' ht hc TB.gP bP fun c' ctv h' tk hx hge hlt hrec htb => ?_
    obtain ⟨c2, oc, vs, t, e2, hoc, hd, hv⟩ := hrec
    cases e2
    have hsz : s.heap.objs.size ≤ h'.objs.size := Nat.le_trans hge (Nat.le_of_lt hlt)
    have nC : H c' = none := I.hok.fresh hge
    have I1 := LamX.inv_table (t' := tk) (more := #[rawInt pos.line, rawInt pos.col, .ref c']) (h' := h'.push (PySem.W.kla_obj "<lambda>" (X.env.qual ++ "<lambda>") params body scope (cloFrom X.env.cells scope.names []) ((X.mg "__name__").getD .none) c' ctv)) I hP
      (fun b o hb e => Heap.get?_push_of_some _ (hx b o hb e)) (Heap.get?_push_of_some _ htb) hge ⟨oc, vs, t, Heap.get?_push_of_some _ hoc, hd, hv⟩
    have hE : LamX.ExtN H (upd (upd H P (.tbl (ps ++ #[rawInt pos.line, rawInt pos.col, .ref c']))) c' (LamX.CodeO c' (X.env.qual ++ "<lambda>"))) := fun b o e n => by
      rw [upd_ne (ne_of_none e nC), upd_ne (fun z => n ps (Option.some.inj (e.symm.trans (by rw [z]; exact hP))))]
      exact e
    have eL : (ps ++ #[rawInt pos.line, rawInt pos.col, .ref c']).toList = ps.toList ++ [rawInt pos.line, rawInt pos.col, .ref c'] := by simp
    have hfn : upd (upd H P (.tbl (ps ++ #[rawInt pos.line, rawInt pos.col, .ref c']))) c' (LamX.CodeO c' (X.env.qual ++ "<lambda>")) h'.objs.size = none := by
      have n1 : h'.objs.size ≠ c' := Nat.ne_of_gt hlt
      have n2 : h'.objs.size ≠ P := Nat.ne_of_gt (Nat.lt_of_lt_of_le (Heap.lt_size hP') hsz)
      rw [upd_ne n1, upd_ne n2]
      exact I.hok.fresh hsz
    have I0 := LamX.inv_table (t' := tk) (more := #[rawInt pos.line, rawInt pos.col, .ref c']) (h' := h') I hP (fun b o hb e => hx b o hb e) htb hge ⟨oc, vs, t, hoc, hd, hv⟩
    have I2 := I0.laid (a := h'.objs.size) (o := LamO h'.objs.size ⟨params, body, scope, X.env.qual ++ "<lambda>"⟩ (cloFrom X.env.cells scope.names []) c') (t' := tk) (h' := h'.push (PySem.W.kla_obj "<lambda>" (X.env.qual ++ "<lambda>") params body scope (cloFrom X.env.cells scope.names []) ((X.mg "__name__").getD .none) c' ctv)) (fun b o e => Heap.get?_push_of_some _ e) (Nat.le_refl _) (lamO_ok (Heap.get?_push_size _ rfl))
    have tl : Told1 H (upd (upd H P (.tbl (ps ++ #[rawInt pos.line, rawInt pos.col, .ref c']))) c' (LamX.CodeO c' (X.env.qual ++ "<lambda>"))) c' (X.env.qual ++ "<lambda>") := fun p hp ps' e pos' cv ec => by
      by_cases hb : p.1 = P
      · rw [hb, upd_ne (ne_of_none hP nC), upd_same] at e
        cases e
        rw [eL] at ec
        rcases LamX.among_app _ ht ec with z | z
        · exact .inr ⟨ps, hb ▸ hP, z⟩
        · exact .inl ⟨z, hu p hp hb⟩
      · by_cases hb2 : p.1 = c'
        · rw [hb2, upd_same] at e
          exact absurd (Option.some.inj e) (LamX.codeO_ne ps')
        · rw [upd_ne hb2, upd_ne hb] at e
          exact .inr ⟨ps', e, ec⟩
    refine h h'.objs.size c' ((X.mg "__name__").getD .none) ctv _ _ I1 hE (fun p hp => ?_) (Heap.get?_push_size _ rfl) hfn (nofr _ hsz) upd_same (I.hok.fresh hsz) I2 (.inl nC) tl
    by_cases hb : p.1 = P
    · refine ⟨_, by rw [hb, upd_ne (ne_of_none hP nC), upd_same], by rw [eL]; exact PySem.TriplesOk_snoc _ _ _ _ ht, fun p' cv hcv => ?_⟩
      rw [hu p hp hb]
      rw [eL] at hcv
      rcases LamX.among_app _ ht hcv with z | z
      · obtain ⟨c0, e1, e2⟩ := ha p' cv z
        exact ⟨c0, e1, hE _ _ e2 LamX.codeO_ne⟩
      · exact ⟨c', z, upd_same⟩
    · obtain ⟨ps', a1, a2, a3⟩ := hT p hp
      refine ⟨ps', by rw [upd_ne (ne_of_none a1 nC), upd_ne hb]; exact a1, a2, fun p' cv hcv => ?_⟩
      obtain ⟨c0, e1, e2⟩ := a3 p' cv hcv
      exact ⟨c0, e1, hE _ _ e2 LamX.codeO_ne⟩
end
def codeG (G H : Hp) (c' : Addr) (q : Str) : Hp := fun b => if b = c' ∧ H c' = none then some (LamX.CodeO c' q) else G b
theorem lam_go {pp : PP} {p1 : Pt} {G1 H1 H2 : Hp} {c' : Addr} {q : Str} (c : Cf pp p1 G1 H1) (hext : LamX.ExtN H1 H2) (htab : LamX.Tabs TBL.T H2) (hco : H2 c' = some (LamX.CodeO c' q)) (hn : New1 H1 c' q) (htl : Told1 H1 H2 c' q) :
    Go pp p1 [] G1 H1 (codeG G1 H1 c' q) (untab H1 H2) ∧ codeG G1 H1 c' q c' = some (LamX.CodeO c' q) := by
  have kp : ∀ b o, H1 b = some o → NT o → untab H1 H2 b = some o := fun b o e nt => untab_nt (hext b o e nt) nt
  have gs : Same G1 (codeG G1 H1 c' q) := fun b o e => by
    show (if b = c' ∧ H1 c' = none then _ else G1 b) = _
    rw [if_neg (fun z => by
      have := c.ex b o e
      rw [z.1, z.2] at this
      cases this)]
    exact e
  have gc : codeG G1 H1 c' q c' = some (LamX.CodeO c' q) := by
    show (if c' = c' ∧ H1 c' = none then _ else G1 c') = _
    rcases hn with hn | ⟨p, hp, e2, ps, pos, h1, h2⟩
    · rw [if_pos ⟨rfl, hn⟩]
    · obtain ⟨c1, e3, e4⟩ := c.ot.cod p hp ps h1 pos _ h2
      cases e3
      rw [if_neg (fun z => by
        have := c.ex _ _ e4
        rw [z.2] at this
        cases this), ← e2]
      exact e4
  have codt : ∀ ps, LamX.CodeO c' q ≠ .tbl ps := fun ps z => LamX.codeO_ne ps z
  have tbs : ∀ b ps, H1 b = some (.tbl ps) → ∃ ps', untab H1 H2 b = some (.tbl ps') := fun b ps e => by
    obtain ⟨q, hq⟩ := c.ot.one b ps e
    obtain ⟨ps', h1, _⟩ := htab _ hq
    exact ⟨ps', untab_old h1 (by rw [e]; rfl)⟩
  have htab' : LamX.Tabs TBL.T (untab H1 H2) := fun q hq => by
    obtain ⟨ps', h1, h2, h3⟩ := htab q hq
    obtain ⟨ps0, h0, _⟩ := c.tb q hq
    refine ⟨ps', untab_old h1 (by rw [h0]; rfl), h2, fun pos cv hcv => ?_⟩
    obtain ⟨c1, e1, e2⟩ := h3 pos cv hcv
    exact ⟨c1, e1, untab_nt e2 fun ps z => LamX.codeO_ne ps z⟩
  have inG : ∀ b o, codeG G1 H1 c' q b = some o → (b = c' ∧ H1 c' = none ∧ o = LamX.CodeO c' q) ∨ G1 b = some o := fun b o e => by
    have e : (if b = c' ∧ H1 c' = none then some (LamX.CodeO c' q) else G1 b) = some o := e
    split at e
    · next z => exact .inl ⟨z.1, z.2, (Option.some.inj e).symm⟩
    · exact .inr e
  refine ⟨⟨gs, ⟨fun b o e => ?_, fun i a ha => ⟨?_, kp a _ (c.pot i a ha).2 (by obtain ⟨xs, ex⟩ := atP_lst p1 i; rw [ex]; exact nt_lst)⟩, c.pnd, htab', fun b ps e => ?_, ⟨fun b ps e => ?_, fun p hp ps e pos cv ec => ?_⟩⟩, fun b o e n => ?_, fun b o e _ _ nt => kp b o e nt, fun b e => ?_⟩, gc⟩
  · rcases inG b o e with ⟨rfl, _, rfl⟩ | e
    · exact untab_nt hco codt
    · exact kp b o (c.ex b o e) fun ps z => c.vt b ps (z ▸ e)
  · have h1 := (c.pot i a ha).2
    show (if a = c' ∧ H1 c' = none then _ else G1 a) = none
    rw [if_neg (fun z => by
      rw [z.1, z.2] at h1
      cases h1)]
    exact (c.pot i a ha).1
  · rcases inG b _ e with ⟨_, _, z⟩ | e
    · exact codt ps z.symm
    · exact c.vt b ps e
  · have e2 := untab_some e
    cases q : H1 b with
    | none =>
      unfold untab at e
      rw [e2, q] at e
      cases e
    | some o =>
      by_cases ht : ∃ ps', o = .tbl ps'
      · obtain ⟨ps', rfl⟩ := ht
        exact c.ot.one b ps' q
      · have := hext b o q fun ps' z => ht ⟨ps', z⟩
        rw [e2] at this
        exact absurd ⟨ps, (Option.some.inj this).symm⟩ ht
  · rcases htl p hp ps (untab_some e) pos cv ec with ⟨z, zq⟩ | ⟨ps0, z1, z2⟩
    · exact ⟨c', z, zq ▸ gc⟩
    · obtain ⟨c1, e1, e2⟩ := c.ot.cod p hp ps0 z1 pos cv z2
      exact ⟨c1, e1, gs _ _ e2⟩
  · rcases inG b o e with ⟨rfl, z, _⟩ | e
    · exact z
    · rw [e] at n
      cases n
  · cases q : H1 b with
    | none => rfl
    | some o =>
      by_cases ht : ∃ ps', o = .tbl ps'
      · obtain ⟨ps', rfl⟩ := ht
        obtain ⟨ps2, h2⟩ := tbs b ps' q
        rw [h2] at e
        cases e
      · rw [kp b o q fun ps' z => ht ⟨ps', z⟩] at e
        cases e
end
end DL
set_option Elab.async false
set_option linter.all false
set_option maxRecDepth 100000
namespace DL
open PySem L2
variable [TBL]
section
variable {X : Cx}
theorem pds_setLc {i : Nat} {y : Str} {py : Pos} {elt tg iter : Expr} {ifs : List Expr} {scope : Scope} {own : List (Str × Nat)} {pos spos : Pos} {it : AG} {is : List Nat} {t : Tgt} {test : BG} {ge : EG} (hc : X.calm = true) (hN : X.N.Nodup) (hy : X.N[i]? = some y) (hyl : X.env.scope.names.lookup y = some .local)
    (hsw : swapsWith (.ListComp elt [⟨tg, iter, ifs, 0⟩] scope pos) (some (.Name y py)) spos.line X.env = pure true) (hi : PDI X tg iter it) (ok : BlkOk X.N X.env.scope scope own)
    (hg : ∀ (s : Shared) (H : Hp) (C : Addr) (cl : List (Str × Addr)) (fp : List Addr), PDG (X.blk s H scope (compEnvC scope cl C X.env) fp) tg is t)
    (ht : ∀ (s : Shared) (H : Hp) (C : Addr) (cl : List (Str × Addr)) (fp : List Addr), PDTs (X.blk s H scope (compEnvC scope cl C X.env) fp) ifs test)
    (he : ∀ (s : Shared) (H : Hp) (C : Addr) (cl : List (Str × Addr)) (fp : List Addr), PD (X.blk s H scope (compEnvC scope cl C X.env) fp) elt ge)
    (hv : ∀ i ∈ is, i ∈ own.map (·.2)) (hs : ∀ x, foldedSetIterable iter X.env x = pure x := by intro _; rfl) : PDS X (.Assign [.Name y py] (.ListComp elt [⟨tg, iter, ifs, 0⟩] scope pos) spos) (sSet i (eLc it t test ge (own.map (·.2)))) :=
  ps_imp (ps_setLc hc hN hy hyl hsw hi ok hg ht he hs) fun D σ H ⟨pp, ps, G, S, r, ps', c, s, e, k⟩ => by
    obtain ⟨d, p1, e1, e⟩ := bindP_inv e
    cases e
    refine lc_data hv X.K σ H _ ⟨pp, ps, G, S, d, _, c, s, e1, fun v G' H' g' r' => ?_⟩
    exact k _ G' H' (g'.toS fun b z => owned_set dat_ne z) ((s.go g').set r')
def powI : PyData → PyData → Option PyData := onI2 (fun i j => decide (0 ≤ j) && decide (j ≤ 1000000) && decide (i.natAbs < 2 ^ 64)) fun i j => .int (i ^ j.toNat)
theorem opd_pow : OpD X (binaryOp .Pow) powI := opd_int op_pow fun _ _ h => by
  rw [Bool.and_eq_true, Bool.and_eq_true] at h
  exact ⟨of_decide_eq_true h.1.1, of_decide_eq_true h.1.2, of_decide_eq_true h.2⟩
end
theorem aNil_l : ∀ (S : Sd) (ps : Pt) (ds : List PyData) (p : Pt), aNil S ps = some (ds, p) → ds.length = 0 := fun _ _ _ _ h => by
  cases h
  rfl
theorem aCons_l {n : Nat} {g : EG} {gs : AG} (h : ∀ (S : Sd) (ps : Pt) (ds : List PyData) (p : Pt), gs S ps = some (ds, p) → ds.length = n) : ∀ (S : Sd) (ps : Pt) (ds : List PyData) (p : Pt), aCons g gs S ps = some (ds, p) → ds.length = n + 1 := fun S ps ds p e => by
  obtain ⟨d, p1, e1, e⟩ := bindP_inv e
  obtain ⟨ds', p2, e2, e⟩ := bindP_inv e
  cases e
  rw [List.length_cons, h _ _ _ _ e2]
theorem hu_n {A : Around} {k : Nat} (hr : Rm k A) (n : Nat) (hn : n ≤ 199) : A.units + n < cLine := by
  have := hr.un
  omega
end DL
set_option Elab.async false
set_option linter.all false
set_option maxRecDepth 100000
namespace DL
open PySem L2
structure FunC (K : PySem.W.Frag) (x qual : Str) (st : Stmt) (f : Addr) (fd : FuncData) (c : Addr) : Prop where
  ex : ∃ (oc : Value) (od : Option Addr) (kV doc pm : Value) (an : Option Addr) (ct : Value) (osl : Array (Option Value)),
    fd = PySem.W.fnOf x qual (defArgs st) (defBody st) (defScope st) .none kV doc pm an (.ref c) ct ∧ K.lookup f = some ⟨oc, od, .func fd, osl⟩ ∧ PySem.W.codeIn K (.ref c) qual = true
section
variable [TBL]
theorem fn_of_bodyC {P : Program} {w : World} {K : PySem.W.Frag} {mg : Str → Option Value} {base : Heap} {x qual : Str} {st : Stmt} {f c : Addr} {fd : FuncData} {N ps : List Str} {k : Nat} {g : SG} (F : FunC K x qual st f fd c) (S : FnScope N ps (defScope st)) (hn : ps.length ≤ N.length)
    (hbody : ∀ (A : Around) (outer : List Env) (s : Shared) (H : Hp) (E : XK), Rm k (A.deeper (PyProof.Rows.envOfC qual (defScope st) s.heap.objs.size f (.ref c))) → PDSs (cxOf CX0 P w K mg base N qual (defScope st) f (.ref c) A outer s H E).nox (defBody st) g) :
    FnD P w K mg base (k + 1) f fd ps (runF N.length g) := by
  obtain ⟨oc, od, kV, doc, pm, an, ct, osl, rfl, lk, hcd⟩ := F.ex
  refine of_g lk hcd S (fun vs H Q E h => ?_) (fun A outer s H vs Q E hr h => ?_)
  · obtain ⟨pp, p, G, ds, d, p', hl, c, r, e, q⟩ := h
    rw [r.length]
    exact hl
  · obtain ⟨pp, p, G, ds, d, p', hl, c, r, e, q⟩ := h
    refine ⟨_, hbody A outer s H E hr, ?_⟩
    have hvl : vs.length ≤ N.length := by
      rw [r.length, hl]
      exact hn
    unfold runF at e
    split at e
    · next d' p1 eg =>
      cases e
      exact ⟨pp, p, G, _, _, _, c, sl_start r hvl, eg, fun v G' H' g' r' => q v G' H' (g'.toGo fun b => start_own) r'⟩
    · next S' p1 eg =>
      cases e
      exact ⟨pp, p, G, _, _, _, c, sl_start r hvl, eg, fun σ' G' H' g' s' => q _ G' H' (g'.toGo fun b => start_own) .non⟩
    · cases e
end
theorem FunC.fn {K : PySem.W.Frag} {x qual : Str} {st : Stmt} {f c : Addr} {fd : FuncData} (F : FunC K x qual st f fd c) (kp : PySem.W.keepIn K (.ref f) = true) : Fun K x qual st f fd := by
  obtain ⟨oc, od, kV, doc, pm, an, ct, osl, e, lk, hcd⟩ := F.ex
  exact ⟨⟨oc, od, kV, doc, pm, an, .ref c, ct, osl, e, lk, hcd⟩, kp⟩
end DL
set_option Elab.async false
set_option linter.all false
set_option maxRecDepth 100000
namespace DL
open PySem L2 PyProof.Rows
section
variable [TBL]
def H0 (a : Addr) (o : Obj) (ns : List Int) : Hp := fun b => if b = a then some (.frz o (.lst (ns.map V.int))) else if TBL.T.any (fun q => q.1 == b) then some (.tbl #[]) else none
theorem h0_a {a : Addr} {o : Obj} {ns : List Int} : H0 a o ns a = some (.frz o (.lst (ns.map V.int))) := if_pos rfl
theorem h0_t {a b : Addr} {o : Obj} {ns : List Int} {q : Str} (h : (b, q) ∈ TBL.T) (n : b ≠ a) : H0 a o ns b = some (.tbl #[]) :=
  (if_neg n).trans (if_pos (List.any_eq_true.mpr ⟨(b, q), h, beq_self_eq_true b⟩))
theorem h0_cases {a : Addr} {o : Obj} {ns : List Int} (b : Addr) : (b = a ∧ H0 a o ns b = some (.frz o (.lst (ns.map V.int)))) ∨ (b ≠ a ∧ (∃ q, (b, q) ∈ TBL.T) ∧ H0 a o ns b = some (.tbl #[])) ∨ (b ≠ a ∧ H0 a o ns b = none) := by
  by_cases h1 : b = a
  · subst h1
    exact .inl ⟨rfl, h0_a⟩
  · by_cases h2 : TBL.T.any (fun q => q.1 == b) = true
    · obtain ⟨⟨c, q⟩, hq, e⟩ := List.any_eq_true.mp h2
      have : c = b := beq_iff_eq.mp e
      subst this
      exact .inr (.inl ⟨h1, ⟨q, hq⟩, h0_t hq h1⟩)
    · exact .inr (.inr ⟨h1, (if_neg h1).trans (if_neg h2)⟩)
theorem law_run {P : Program} {w : World} {K : PySem.W.Frag} {mg mb : Str → Option Value} {k : Nat} {fa a : Addr} {cs : List (Addr × Addr)} {fd : FuncData} {x : Str} {fn : List PyData → Pt → Option (PyData × Pt)} {sA : Shared} {vs : List Value} {ns : List Int}
    (hK : K.In sA.heap) (hmn : sA.heap.Ns mainGlobals mg) (hbn : sA.heap.Ns builtinsNs mb) (hbo : ∀ y : Str, y ≠ "__name__" → mb y = bootBuiltins y) (hlim : sA.heap.NoLimit) (hgen : sA.gens = #[])
    (hT : ∀ p ∈ cs, sA.heap.get? p.2 = some { cls := .none, data := .fields #[] }) (nT : ∀ p ∈ cs, K.lookup p.2 = none) (hC : ∀ p ∈ cs, PySem.W.CodeHd sA.heap p.1 p.2)
    (hbm : ∃ (bm : Addr) (ob : Obj), mg "__builtins__" = some (.ref bm) ∧ bm ≠ builtinsNs ∧ sA.heap.get? bm = some ob ∧ ob.cls = .type "module" ∧ ob.dict = some builtinsNs ∧ ob.data = .plain)
    (ha : sA.heap.get? a = some { cls := .type "list", data := .seq vs.toArray }) (hi : IntsAre vs ns) (hl : ns.length ≤ sizeLine) (hr : Rm k callerA) (noL : ∀ b o, K.lookup b = some o → o.cls ≠ .type "list")
    (hTB : ∀ q ∈ TBL.T, ∃ c, (c, q.1) ∈ cs) (F : ∀ base : Heap, K.In base → base.Ns mainGlobals mg → (∀ p ∈ cs, LamX.TabB base mg p.1 p.2) → (∃ o, base.get? sysModules = some o) → FnD P w K mg base k fa fd [x] fn) (hsy : ∃ mm, sA.heap.Ns sysModules mm) (hbind : ∀ (s : Shared) (u : Value), BindsTo s fd ⟨[u], []⟩ [(x, u)])
    (hlaw : ∃ ps, fn [.list (ns.map .int)] (0, 0, 0) = some (.bool true, ps)) :
    codeAny (model P w) callerA (.call (.ref fa) ⟨[.ref a], []⟩) (fun r s' => r = .ok (.ret (.bool true)) ∧ OldK sA.heap s'.heap ∧ s'.os = sA.os ∧ AllBare s'.gens) sA := by
  have tobj : ∀ {b : Addr} {q : Str}, (b, q) ∈ TBL.T → sA.heap.get? b = some { cls := .none, data := .fields #[] } := fun {b q} h => by
    obtain ⟨c, hc⟩ := hTB (b, q) h
    exact hT _ hc
  have tne : ∀ {b : Addr} {q : Str}, (b, q) ∈ TBL.T → b ≠ a := fun {b q} h z => by
    have h1 := tobj h
    rw [z, ha] at h1
    have h2 := congrArg Obj.data (Option.some.inj h1)
    cases h2
  let o : Obj := { cls := .type "list", data := .seq vs.toArray }
  let H : Hp := H0 a o ns
  have fr : ∀ {b : Addr} {ob : Obj}, sA.heap.get? b = some ob → (∀ us n, ob.data ≠ .seq us n) → ob.data ≠ .fields #[] → H b = none := fun {b ob} e h1 h2 => by
    rcases h0_cases (a := a) (o := o) (ns := ns) b with ⟨z, _⟩ | ⟨_, ⟨q, hq⟩, _⟩ | ⟨_, z⟩
    · rw [z, ha] at e
      cases e
      exact absurd rfl (h1 _ _)
    · rw [tobj hq] at e
      cases e
      exact absurd rfl h2
    · exact z
  have frD : ∀ {b : Addr} {ob : Obj} {es : Array DictEntry} {ep : Nat}, sA.heap.get? b = some ob → ob.data = .dict es ep → H b = none := fun {b ob es ep} e d => fr e (fun us n z => by rw [d] at z; cases z) (fun z => by rw [d] at z; cases z)
  have nsB : ∀ {b : Addr} {m : Str → Option Value}, sA.heap.Ns b m → (hidT sA.heap H).Ns b m := fun {b m} ⟨ob, es, ep, e, d, z⟩ => ⟨ob, es, ep, hidT_get e (frD e d), d, z⟩
  have kB : K.In (hidT sA.heap H) := fun b ob e => by
    refine hidT_get (hK b ob e) ?_
    rcases h0_cases (a := a) (o := o) (ns := ns) b with ⟨z, _⟩ | ⟨_, ⟨q, hq⟩, _⟩ | ⟨_, z⟩
    · have h1 := hK b ob e
      rw [z, ha] at h1
      cases h1
      exact absurd rfl (noL b _ e)
    · obtain ⟨c, hc⟩ := hTB (b, q) hq
      have h1 := nT _ hc
      rw [show ((c, (b, q).1) : Addr × Addr).2 = b from rfl, e] at h1
      cases h1
    · exact z
  have md : L2.Mod K mg (hidT sA.heap H) := ⟨kB, nsB hmn, ⟨mb, nsB hbn, hbo⟩, let ⟨mc, h1, h2⟩ := hlim; ⟨mc, nsB h1, h2⟩⟩
  have tabs : ∀ p ∈ cs, LamX.TabB (hidT sA.heap H) mg p.1 p.2 := fun p hp => by
    have hTp := hT p hp
    constructor
    · obtain ⟨oc, us, file, tf, flags, tg, inF, text, tt, e1, r1, r2, rest⟩ := hC p hp
      refine ⟨oc, us, file, tf, flags, tg, inF, text, tt, hidT_get e1 (fr e1 (fun us n z => by rw [r2] at z; cases z) fun z => ?_), r1, r2, rest⟩
      rw [r2] at z
      cases z
      simp at rest
    · obtain ⟨bm, ob, b1, b2, b3, b4, b5, b6⟩ := hbm
      refine ⟨bm, ob, b1, b2, fun z => ?_, fun z => ?_, hidT_get b3 (fr b3 (fun us n z => by rw [b6] at z; cases z) fun z => by rw [b6] at z; cases z), b4, b5, b6⟩
      · obtain ⟨og, es, ep, e, d, _⟩ := hmn
        rw [z, e] at b3
        cases b3
        rw [d] at b6
        cases b6
      · rw [z, hTp] at b3
        cases b3
        cases b6
    · intro z
      obtain ⟨og, es, ep, e, d, _⟩ := hmn
      rw [z, hTp] at e
      cases e
      cases d
  have hok : HOk P w H sA.heap := fun b u z => by
    rcases h0_cases (a := a) (o := o) (ns := ns) b with ⟨y, e⟩ | ⟨_, ⟨q, hq⟩, e⟩ | ⟨_, e⟩
    · have z' := e.symm.trans z
      cases z'
      subst y
      exact ⟨ha, by rw [List.length_map]; exact hl, vs, _, vals_ints hi, ha⟩
    · have z' := e.symm.trans z
      cases z'
      exact tobj hq
    · have z' := e.symm.trans z
      cases z'
  have env : Env0 P w K mg (hidT sA.heap H) callerA [] sA H := ⟨rfl, md, fun b ob e => of_hidT e, Nat.le_of_eq (hidT_size _ _), trivial, fun b hb => absurd (show b ∈ ([] : List Addr) from hb) (by simp), hok, .of_eq hgen⟩
  obtain ⟨ps, hps⟩ := hlaw
  let G : Hp := fun b => if b = a then H a else none
  have hG : Rd G a (.lst (ns.map V.int)) := .inr ⟨o, (if_pos rfl).trans h0_a⟩
  have rvl : ∀ ms : List Int, RvL K pp0 G (ms.map V.int) (ms.map PyData.int) := fun ms => by
    induction ms with
    | nil => exact .nil
    | cons m r ih => exact .cons (.int m) ih
  have cf : Cf pp0 (0, 0, 0) G H := by
    refine ⟨fun b u e => ?_, fun _ b z => (nomatch z), fun _ _ b z => (nomatch z), fun q hq => LamX.TabS.nil (h0_t (q := q.2) hq (tne (q := q.2) hq)), fun b us e => ?_, ⟨fun b us e => ?_, fun q hq us e pos cv ec => ?_⟩⟩
    · have e' : (if b = a then H a else none) = some u := e
      split at e'
      · next hb =>
        rw [hb]
        exact e'
      · cases e'
    · have e' : (if b = a then H a else none) = some (.tbl us) := e
      split at e'
      · have e2 := (h0_a (a := a) (o := o) (ns := ns)).symm.trans e'
        cases e2
      · cases e'
    · rcases h0_cases (a := a) (o := o) (ns := ns) b with ⟨_, z⟩ | ⟨_, hq, _⟩ | ⟨_, z⟩
      · have e2 := z.symm.trans e
        cases e2
      · exact hq
      · have e2 := z.symm.trans e
        cases e2
    · have e2 := (h0_t (a := a) (o := o) (ns := ns) (q := q.2) hq (tne (q := q.2) hq)).symm.trans e
      cases e2
      have z : codeAmong pos [] = some cv := ec
      simp [codeAmong] at z
  refine codeAny_mono ((F _ kB (nsB hmn) tabs (let ⟨mm, hm⟩ := hsy; let ⟨os, _, _, e, _⟩ := nsB hm; ⟨os, e⟩)).go callerA [] sA H ⟨[.ref a], []⟩ [.ref a] [.ref a] (fun v _ => v = .bl true) E0 hr env (hbind sA (.ref a)) (.cons rfl .nil) ⟨pp0, (0, 0, 0), G, [.list (ns.map .int)], .bool true, ps, rfl, cf, .cons (.lst hG (rvl ns)) .nil, hps, fun v G' H' g' r' => rv_bl r'⟩) fun r s' h => ?_
  cases r with
  | error e => exact False.elim h
  | ok fl =>
    cases fl with
    | next => exact False.elim h
    | brk => exact False.elim h
    | cont => exact False.elim h
    | ret u =>
      obtain ⟨v, H', os, bare, un, hok', rv, q⟩ := h
      have q' : v = .bl true := q
      subst q'
      obtain rfl : u = Value.bool true := rv
      have stay : ∀ b ob, sA.heap.get? b = some ob → s'.heap.get? b = some ob ∨ ∃ q, (b, q) ∈ TBL.T := fun b ob e => by
        rcases h0_cases (a := a) (o := o) (ns := ns) b with ⟨y, z⟩ | ⟨_, hq, _⟩ | ⟨_, z⟩
        · obtain ⟨e1, _⟩ := hok b _ z
          obtain ⟨e2, _⟩ := hok' b _ (un.frzs b o _ z)
          rw [e] at e1
          cases e1
          exact .inl e2
        · exact .inr hq
        · exact .inl (un.keep b ob e z (fun y => absurd (show b ∈ ([] : List Addr) from y) (by simp)) (by simp))
      have grown : ∀ {b : Addr} {q : Str}, (b, q) ∈ TBL.T → ∃ more : Array Value, s'.heap.get? b = some { cls := .none, data := .fields more } := fun {b q} hq => by
        obtain ⟨more, z⟩ := un.tbls b #[] (h0_t hq (tne hq))
        exact ⟨_, hok' b _ z⟩
      refine ⟨rfl, ⟨fun b ob e => ?_, fun b ob e => ?_⟩, os, bare⟩
      · rcases stay b ob e with z | ⟨q, hq⟩
        · exact .inl z
        · obtain ⟨c, hc⟩ := hTB (b, q) hq
          obtain ⟨more, hm⟩ := grown hq
          rw [tobj hq] at e
          cases e
          exact .inr (.inl ⟨((hC _ hc).tab (hT _ hc)).isCodeTable, rfl, #[], more, rfl, by rw [Array.empty_append]; exact hm⟩)
      · rcases stay b ob e with z | ⟨q, hq⟩
        · exact ⟨ob, z⟩
        · obtain ⟨more, hm⟩ := grown hq
          exact ⟨_, hm⟩
end
def LawD (l : PySem.W.OpenLaw) (w : World) (K : PySem.W.Frag) (k n : Nat) (x : Str) (mg : Str → Option Value) (fa : Addr) (h : Heap) : Prop :=
  ∃ (T : TBL) (fd : FuncData) (cs : List (Addr × Addr)) (fn : List PyData → Pt → Option (PyData × Pt)), (∀ p ∈ cs, h.get? p.2 = some { cls := .none, data := .fields #[] }) ∧ (∀ p ∈ cs, K.lookup p.2 = none) ∧ (∀ p ∈ cs, PySem.W.CodeHd h p.1 p.2) ∧ (∀ (s : Shared) (u : Value), BindsTo s fd ⟨[u], []⟩ [(x, u)]) ∧
    (∀ q ∈ T.T, ∃ c, (c, q.1) ∈ cs) ∧ (∀ b o, K.lookup b = some o → o.cls ≠ .type "list") ∧ (∀ base : Heap, K.In base → base.Ns mainGlobals mg → (∀ p ∈ cs, LamX.TabB base mg p.1 p.2) → (∃ o, base.get? sysModules = some o) → FnD l.prog w K mg base k fa fd [x] fn) ∧
    ∀ ns : List Int, ns.length ≤ n → (∀ z ∈ ns, Builtin.Int.intBits z ≤ 1048576) → ∃ ps, fn [.list (ns.map .int)] (0, 0, 0) = some (.bool true, ps)
theorem law_at [T : TBL] {l : PySem.W.OpenLaw} {w : World} {K : PySem.W.Frag} {k n : Nat} {x : Str} {mg : Str → Option Value} {fa : Addr} {h : Heap} {fd : FuncData} {cs : List (Addr × Addr)} {fn : List PyData → Pt → Option (PyData × Pt)}
    (hT : ∀ p ∈ cs, h.get? p.2 = some { cls := .none, data := .fields #[] }) (nT : ∀ p ∈ cs, K.lookup p.2 = none) (C : ∀ p ∈ cs, PySem.W.CodeHd h p.1 p.2) (hb : ∀ (s : Shared) (u : Value), BindsTo s fd ⟨[u], []⟩ [(x, u)]) (hTB : ∀ q ∈ TBL.T, ∃ c, (c, q.1) ∈ cs) (noL : ∀ a o, K.lookup a = some o → o.cls ≠ .type "list")
    (F : ∀ base : Heap, K.In base → base.Ns mainGlobals mg → (∀ p ∈ cs, LamX.TabB base mg p.1 p.2) → (∃ o, base.get? sysModules = some o) → FnD l.prog w K mg base k fa fd [x] fn)
    (hlaw : ∀ ns : List Int, ns.length ≤ n → (∀ z ∈ ns, Builtin.Int.intBits z ≤ 1048576) → ∃ ps, fn [.list (ns.map .int)] (0, 0, 0) = some (.bool true, ps)) : LawD l w K k n x mg fa h :=
  ⟨T, fd, cs, fn, hT, nT, C, hb, hTB, noL, F, hlaw⟩
theorem walk_D {l : PySem.W.OpenLaw} {n k : Nat} {q : Program} {loose : List Str} {XP : (Str → Option Value) → Heap → Prop} {YP : World → Heap → Prop} {d : DefRec} {K : Params → PySem.W.Frag} {x : Str} (hn : l.most = some n) (hn2 : n ≤ sizeLine) (hdf : d.params.defaults = []) (hq : importsNone q = true) (hr : Rm k callerA) (hY : ∀ (w : World) (h : Heap), YP w h → (K w.params).In h)
    (F : ∀ (w : World) (mg : Str → Option Value) (fa : Addr) (h : Heap), YP w h → (K w.params).In h → h.Ns mainGlobals mg → mg d.name = some (.ref fa) → LawD l w (K w.params) k n x mg fa h) : PySem.W.WalkO q loose XP YP l.row.toRowW d [] (fun f vs => PySem.call f vs) := by
  apply Att.attach_callB hn hdf
  intro w s0 s1 mg mb fa o pm cd doc a vs ns G Y ho hd hcd hmg hobj hints hlen hbits hg
  have KX := hY w _ Y
  obtain ⟨T, fd, cs, fn, hT, nT, C, hb, hTB, noL, hF, hlaw⟩ := F w mg fa _ Y KX G.T.g hmg
  exact @law_run T _ _ _ _ _ _ _ _ _ _ _ _ _ _ _ KX G.T.g G.T.b G.T.builtins G.T.nolimit hg hT nT C G.T.bmain hobj hints (Nat.le_trans hlen hn2) hr noL hTB hF (let ⟨mm, hm, _⟩ := (G.T.seer hq).mods; ⟨mm, hm⟩) hb (hlaw ns hlen hbits)
end DL
set_option Elab.async false
set_option linter.all false
set_option maxRecDepth 100000
namespace DL
open PySem L2
variable [TBL]
section
variable {X : Cx} {pins : List (Addr × Obj)} {σ : L2.St} {H G : Hp} {s : Shared} {pp : PP}
theorem rd_ne {a b : Addr} {u : HO} (h : Rd H a u) (n : H b = none) : a ≠ b := fun z => by
  subst z
  rcases h with h | ⟨o, h⟩ <;> rw [n] at h <;> cases h
theorem key_reads {P : Program} {w : World} {hp : Heap} : ∀ {es : List DictEntry} {ks : List (Key × Value)} {kvs : List (Key × V)}, Pairs (mixKind P w) es ks → KV kvs ks → ∃ as, ReadsAll hp (es.map (·.key)) (kvs.map fun p => keyD p.1) as ∧ sysModules ∉ as ∧ Vals (kvs.map (·.2)) (es.map (·.val))
  | _, _, _, .nil, r => by
    cases r
    exact ⟨_, ReadsAll.nil, by simp, .nil⟩
  | _, _, _, .cons h1 h2 h3, r => by
    cases r with
    | cons r1 r2 =>
      obtain ⟨as, q1, q2, q3⟩ := key_reads (hp := hp) h3 r2
      rw [mixKind_is, ← r1.1] at h1
      rcases keyIs_shape h1 with ⟨i, t, e1, e2⟩ | ⟨x, t, e1, e2⟩
      · refine ⟨_, ReadsAll.cons (as := []) ?_ q1, by simpa using q2, .cons ?_ q3⟩
        · dsimp only
          rw [e1, e2]
          exact Reads.int i t
        · dsimp only
          rw [h2]
          exact r1.2
      · refine ⟨_, ReadsAll.cons (as := []) ?_ q1, by simpa using q2, .cons ?_ q3⟩
        · dsimp only
          rw [e1, e2]
          exact Reads.str x t
        · dsimp only
          rw [h2]
          exact r1.2
theorem rvk_keys : ∀ {kvs : List (Key × V)} {es : List (PyData × PyData)}, RvK X.K pp G kvs es → es.map (·.1) = kvs.map fun p => keyD p.1
  | _, _, .nil => rfl
  | _, _, .cons _ t => by
    rw [List.map_cons, List.map_cons, rvk_keys t]
mutual
theorem Rv.reads (I : Inv X pins σ H s) (e : Same G H) (hs : H sysModules = none) : ∀ (d : PyData) (v : V) (u : Value), potFree d = true → Rv X.K pp G v d → RelV v u → ∃ as, Reads s.heap u d as ∧ sysModules ∉ as
  | .none, _, _, _, h, r => by
    cases h
    cases r
    exact ⟨_, Reads.none, by simp⟩
  | .bool b, _, _, _, h, r => by
    cases h
    cases r
    exact ⟨_, Reads.bool b, by simp⟩
  | .int i, _, _, _, h, r => by
    cases h
    obtain ⟨t, rfl⟩ := r
    exact ⟨_, Reads.int i t, by simp⟩
  | .str x, _, _, _, h, r => by
    cases h
    obtain ⟨t, rfl⟩ := r
    exact ⟨_, Reads.str x t, by simp⟩
  | .list ds, _, _, f, h, r => by
    cases h with
    | lst h1 h2 =>
      cases r
      have h3 := same_l e h1
      obtain ⟨its, rv, ⟨o, n, ho, hc, _, hd⟩, _⟩ := I.list (.inl h3)
      obtain ⟨as, hr, hn⟩ := RvL.reads I e hs ds _ its (by simpa only [potFree] using f) h2 rv
      exact ⟨_, Reads.list ho hc hd hr, by simp [hn, Ne.symm (rd_ne h3 hs)]⟩
  | .tuple ds, _, _, f, h, r => by
    cases h with
    | tup h1 h2 =>
      cases r
      obtain ⟨its, rv, ⟨o, ho, hc, n, hd⟩, _⟩ := I.tuple (same_t e h1.t)
      obtain ⟨as, hr, hn⟩ := RvL.reads I e hs ds _ its (by simpa only [potFree] using f) h2 rv
      exact ⟨_, Reads.tuple ho hc hd hr, hn⟩
  | .dict es, _, _, f, h, r => by
    cases h with
    | pot q => simp [potFree, potFreeK] at f
    | lef q => simp [potFree, potFreeK] at f
    | slf q => simp [potFree, potFreeK] at f
    | obj _ _ => simp [potFree, potFreeK] at f
    | lam _ _ _ => simp [potFree, potFreeK, lamD] at f
    | clo _ _ _ _ _ _ => simp [potFree, potFreeK, cloD] at f
    | exv _ _ => simp [potFree, potFreeK] at f
    | @dkx a0 o nks0 ks0 vs0 _ h1 h2 h3 =>
      cases r
      have hne : a0 ≠ sysModules := fun z => by
        subst z
        have := e _ _ h1
        rw [hs] at this
        cases this
      have h4 := e _ _ h1
      obtain ⟨⟨q1, q2, ents, ep, xs, q3, q4, q5, q6, q7, q8⟩, _, _⟩ := I.hok _ _ h4
      obtain ⟨as, bs, k1, k2, n1, n2⟩ := RvX.reads I e hs es _ _ _ _ h2.keys (by simpa only [potFree] using f) h3 q6 q7
      have ek : ents.toList.map (·.key) = xs.map (·.2.1) := by rw [q4, List.map_map]; rfl
      have ev : ents.toList.map (·.val) = xs.map (·.2.2) := by rw [q4, List.map_map]; rfl
      refine ⟨_, Reads.dict q1 q2.1 q3 (by rw [ek]; exact k1) (by rw [ev]; exact k2), ?_⟩
      simp [n1, n2, Ne.symm hne]
    | pr _ _ _ => simp [potFree, potFreeK] at f
    | dct h1 h2 =>
      cases r
      have h3 := same_k e h1.rd
      obtain ⟨_, _, vs, kv, o, ents, ep, ho, hx, hd, _, hpr, _⟩ := dk_rd I.hok h3
      obtain ⟨as, q1, q2, q3⟩ := key_reads (hp := s.heap) hpr kv
      obtain ⟨bs, q4, q5⟩ := RvK.reads I e hs es _ _ (by simpa only [potFree] using f) h2 q3
      have hk := rvk_keys h2
      refine ⟨_, Reads.dict ho hx.1 hd (by rw [hk]; exact q1) q4, ?_⟩
      simp [q2, q5, Ne.symm (rd_ne h3 hs)]
theorem RvX.reads (I : Inv X pins σ H s) (e : Same G H) (hs : H sysModules = none) : ∀ (es : List (PyData × PyData)) (ks vs : List V) (us ws : List Value), (∀ e ∈ es, keyX e.1 = true) → potFreeK es = true → RvX X.K pp G ks vs es → Vals ks us → Vals vs ws → ∃ as bs, ReadsAll s.heap us (es.map (·.1)) as ∧ ReadsAll s.heap ws (es.map (·.2)) bs ∧ sysModules ∉ as ∧ sysModules ∉ bs
  | [], _, _, _, _, _, _, h, r, t => by
    cases h
    cases r
    cases t
    exact ⟨_, _, ReadsAll.nil, ReadsAll.nil, by simp, by simp⟩
  | (kd, d) :: es, _, _, _, _, hk, f, h, r, t => by
    cases h with
    | cons h1 h2 h3 =>
      obtain ⟨l, k, e', q, _⟩ := keyX_inv (hk (kd, d) List.mem_cons_self)
      have e' : kd = .tuple l := e'
      subst e'
      have f' : potFree d = true ∧ potFreeK es = true := by simpa only [potFreeK, Bool.and_eq_true] using f
      cases r with
      | cons r1 r2 =>
        cases t with
        | cons t1 t2 =>
          obtain ⟨as, q1, n1⟩ := Rv.reads I e hs _ _ _ (pot_of_lay _ q) h1 r1
          obtain ⟨bs, q2, n2⟩ := Rv.reads I e hs d _ _ f'.1 h2 t1
          obtain ⟨as2, bs2, q3, q4, n3, n4⟩ := RvX.reads I e hs es _ _ _ _ (fun e he => hk e (List.mem_cons_of_mem _ he)) f'.2 h3 r2 t2
          exact ⟨_, _, ReadsAll.cons q1 q3, ReadsAll.cons q2 q4, by simp [n1, n3], by simp [n2, n4]⟩
theorem RvL.reads (I : Inv X pins σ H s) (e : Same G H) (hs : H sysModules = none) : ∀ (ds : List PyData) (vs : List V) (us : List Value), potFreeL ds = true → RvL X.K pp G vs ds → Vals vs us → ∃ as, ReadsAll s.heap us ds as ∧ sysModules ∉ as
  | [], _, _, _, h, r => by
    cases h
    cases r
    exact ⟨_, ReadsAll.nil, by simp⟩
  | d :: ds, _, _, f, h, r => by
    have f' : potFree d = true ∧ potFreeL ds = true := by simpa only [potFreeL, Bool.and_eq_true] using f
    cases h with
    | cons h1 h2 =>
      cases r with
      | cons r1 r2 =>
        obtain ⟨as, q1, n1⟩ := Rv.reads I e hs d _ _ f'.1 h1 r1
        obtain ⟨bs, q2, n2⟩ := RvL.reads I e hs ds _ _ f'.2 h2 r2
        exact ⟨_, ReadsAll.cons q1 q2, by simp [n1, n2]⟩
theorem RvK.reads (I : Inv X pins σ H s) (e : Same G H) (hs : H sysModules = none) : ∀ (es : List (PyData × PyData)) (kvs : List (Key × V)) (us : List Value), potFreeK es = true → RvK X.K pp G kvs es → Vals (kvs.map (·.2)) us → ∃ as, ReadsAll s.heap us (es.map (·.2)) as ∧ sysModules ∉ as
  | [], _, _, _, h, r => by
    cases h
    cases r
    exact ⟨_, ReadsAll.nil, by simp⟩
  | (kd, d) :: es, _, _, f, h, r => by
    cases h with
    | @cons k v kvs _ _ h1 h2 =>
      have f' : potFree d = true ∧ potFreeK es = true := by
        cases k <;> simpa only [keyD, potFreeK, Bool.and_eq_true] using f
      cases r with
      | cons r1 r2 =>
        obtain ⟨as, q1, n1⟩ := Rv.reads I e hs d _ _ f'.1 h1 r1
        obtain ⟨bs, q2, n2⟩ := RvK.reads I e hs es _ _ f'.2 h2 r2
        exact ⟨_, ReadsAll.cons q1 q2, by simp [n1, n2]⟩
end
end
section
variable {X : Cx}
def isBox : PyData → Bool
  | .list _ => true
  | .tuple _ => true
  | .dict _ => true
  | _ => false
def reprOk (d : PyData) : Bool := isBox d && potFree d && d.showable && decide (d.depth ≤ 100) && decide (d.shown.length ≤ 16777216)
def reprD (d : PyData) : Option PyData := if reprOk d then some (.str d.shown) else none
theorem cd_repr {k : Nat} (hr : Rm k X.A) (hsys : ∃ o, X.base.get? sysModules = some o) : CallR X (.builtin "repr") (rDL X.K (one reprD)) := by
  intro pins s σ H vs us Q I rs ⟨pp, ps, G, xs, d, c, r, e, kk⟩
  obtain ⟨x, ex, e1⟩ := one_inv e
  subst ex
  clear e
  obtain ⟨v, rfl, r1⟩ := rvl_one r
  obtain ⟨hk, rfl⟩ := ite_inv e1
  unfold reprOk at hk
  rw [Bool.and_eq_true, Bool.and_eq_true, Bool.and_eq_true, Bool.and_eq_true] at hk
  obtain ⟨⟨⟨⟨k1, k2⟩, k3⟩, k4⟩, k5⟩ := hk
  obtain ⟨o, ho⟩ := hsys
  have hs : H sysModules = none := (I.bs _ _ ho).2
  cases rs with
  | cons u1 u2 =>
    cases u2
    obtain ⟨as, hrd, hns⟩ := Rv.reads I c.ex hs x v _ k2 r1 u1
    have hv : ∃ a, v = .ref a := by
      cases x with
      | list l => obtain ⟨a, _, z, _⟩ := rv_lst r1; exact ⟨a, z⟩
      | tuple l => obtain ⟨a, _, z, _⟩ := rv_tup r1; exact ⟨a, z⟩
      | dict l => cases r1 with
        | pot q => exact ⟨_, rfl⟩
        | lef q => exact ⟨_, rfl⟩
        | slf q => exact ⟨_, rfl⟩
        | obj _ _ => exact ⟨_, rfl⟩
        | lam _ _ _ => exact ⟨_, rfl⟩
        | clo _ _ _ _ _ _ => exact ⟨_, rfl⟩
        | exv _ _ => exact ⟨_, rfl⟩
        | dkx _ _ _ => exact ⟨_, rfl⟩
        | dct _ _ => exact ⟨_, rfl⟩
        | pr _ _ _ => exact ⟨_, rfl⟩
      | _ => cases k1
    obtain ⟨a, rfl⟩ := hv
    cases u1
    have hd : x.depth ≤ 100 := of_decide_eq_true k4
    have hu := hr.un
    have hz : x.shown.length ≤ sizeLine := by
      rw [sizeLine_eq]
      exact of_decide_eq_true k5
    refine repr_of_reads' hrd k3 (fun _ => hns) hr.gd (by omega) (fun _ _ z => z) (fun h' t tk hkp => ?_) hz
    exact ⟨.str x.shown, H, I.kept hkp, ⟨t, rfl⟩, kk _ G H (Go.refl c) (.str _)⟩
end
end DL
set_option Elab.async false
set_option linter.all false
set_option maxRecDepth 100000
namespace DL
open PySem L2
variable [TBL]
section
variable {X : Cx}
def bChain (o o' : PyData → PyData → Option PyData) (ga gb gc : EG) : BG := fun S ps => bindP (ga S ps) fun x p => bindP (gb S p) fun y p1 => match o x y with
  | some (.bool true) => bindP (gc S p1) fun z p2 => match o' y z with
    | some (.bool b) => some (b, p2)
    | _ => none
  | some (.bool false) => some (false, p1)
  | _ => none
theorem pdt_chain {a b c : Expr} {op op' : CmpOp} {ga gb gc : EG} {pos : Pos} {o o' : PyData → PyData → Option PyData} (ho : OpD X (compareOp op) o) (ho' : OpD X (compareOp op') o') (ha : PD X a ga) (hb : PD X b gb) (hc : PD X c gc)
    (hm : lastMarks [op, op'] [b, c] = false := by with_unfolding_all rfl) : PDT X (.Compare a [op, op'] [b, c] pos) (bChain o o' ga gb gc) :=
  pt_imp (pt_chain ho ho' ha hb hc hm) fun σ H Q ⟨pp, ps, G, S, d, ps', c, s, e, k⟩ => by
    obtain ⟨x, p1, e1, e⟩ := bindP_inv e
    obtain ⟨y, p2, e2, e⟩ := bindP_inv e
    split at e
    · next e3 =>
      obtain ⟨z, p3, e4, e⟩ := bindP_inv e
      split at e
      · next b e5 =>
        cases e
        refine ⟨pp, ps, G, S, x, p1, c, s, e1, fun v G1 H1 g1 r1 => ⟨pp, p1, G1, S, y, p2, g1.cf, s.go g1, e2, fun w G2 H2 g2 r2 => ⟨pp, p2, G2, x, y, _, g2.cf, Rv.mono g2.gg _ _ r1, r2, e3, fun t G3 H3 g3 r3 => ⟨true, rv_bl r3, iteT ?_⟩⟩⟩⟩
        have s3 := ((s.go g1).go g2).go g3
        exact ⟨pp, p2, G3, S, z, _, g3.cf, s3, e4, fun u G4 H4 g4 r4 => ⟨pp, _, G4, y, z, _, g4.cf, Rv.mono g4.gg _ _ (Rv.mono g3.gg _ _ r2), r4, e5, fun q G5 H5 g5 r5 => ⟨_, rv_bl r5, k G5 H5 ((((g1.trans g2).trans g3).trans g4).trans g5)⟩⟩⟩
      · cases e
    · next e3 =>
      cases e
      exact ⟨pp, ps, G, S, x, p1, c, s, e1, fun v G1 H1 g1 r1 => ⟨pp, p1, G1, S, y, _, g1.cf, s.go g1, e2, fun w G2 H2 g2 r2 => ⟨pp, _, G2, x, y, _, g2.cf, Rv.mono g2.gg _ _ r1, r2, e3, fun t G3 H3 g3 r3 => ⟨false, rv_bl r3, iteF ⟨false, rfl, k G3 H3 ((g1.trans g2).trans g3)⟩⟩⟩⟩⟩
    · cases e
def Cst (K : PySem.W.Frag) (mg : Str → Option Value) (x : Str) (d : PyData) : Prop := ∃ u v, mg x = some u ∧ RelV v u ∧ ∀ pp G, Rv K pp G v d
theorem pd_cst {x : Str} {d : PyData} {pos : Pos} (hg : Gl X x) (h : Cst X.K X.mg x d) (hd : (x == ("__debug__" : Str)) = false := by decide) : PD X (.Name x pos) (eC d) := by
  obtain ⟨u, v, h1, h2, h3⟩ := h
  exact pd_c (pe_glob hg h1 h2 hd) h3
theorem cst_str {K : PySem.W.Frag} {mg : Str → Option Value} {x z : Str} {t : Tok} (h : mg x = some (.str z t)) : Cst K mg x (.str z) := ⟨_, .str z, h, ⟨t, rfl⟩, fun _ _ => .str z⟩
theorem cst_int {K : PySem.W.Frag} {mg : Str → Option Value} {x : Str} {i : Int} {t : Tok} (h : mg x = some (.int i t)) : Cst K mg x (.int i) := ⟨_, .int i, h, ⟨t, rfl⟩, fun _ _ => .int i⟩
def strVals : List Value → Option (List Str)
  | [] => some []
  | .str z _ :: r => (strVals r).map (z :: ·)
  | _ :: _ => none
theorem strVals_ok {K : PySem.W.Frag} {pp : PP} {G : Hp} : ∀ {us : List Value} {zs : List Str}, strVals us = some zs → Vals (zs.map V.str) us ∧ RvL K pp G (zs.map V.str) (zs.map PyData.str)
  | [], _, h => by
    cases h
    exact ⟨.nil, .nil⟩
  | .str z t :: r, _, h => by
    obtain ⟨zs, h1, rfl⟩ := map_inv (show (strVals r).map (z :: ·) = _ from h)
    obtain ⟨a, b⟩ := strVals_ok (K := K) (pp := pp) (G := G) h1
    exact ⟨.cons ⟨t, rfl⟩ a, .cons (.str z) b⟩
theorem cst_tup {K : PySem.W.Frag} {mg : Str → Option Value} {x : Str} {a : Addr} {o : Obj} {its : Array Value} {n : Nat} {zs : List Str} (h : mg x = some (.ref a)) (hk : K.lookup a = some o) (hc : o.cls = .type "tuple") (hdn : o.dict = none) (hd : o.data = .seq its n) (hz : its.size ≤ 16777216) (hs : strVals its.toList = some zs) : Cst K mg x (.tuple (zs.map .str)) :=
  ⟨_, .ref a, h, rfl, fun pp G => .tup (.inr ⟨o, its, n, hk, hc, hdn, hd, by rw [sizeLine_eq]; exact hz, (strVals_ok (pp := pp) (G := G) (K := K) hs).1⟩) (strVals_ok hs).2⟩
def inS (neg : Bool) : PyData → PyData → Option PyData
  | .str a, .str z => match a.cps.toList with
    | [c] => some (.bool (if neg then !decide (c ∈ z.cps.toList) else decide (c ∈ z.cps.toList)))
    | _ => none
  | _, _ => none
theorem sign_of {a : Str} {c : Nat} (h : a.cps.toList = [c]) : a = ⟨#[c]⟩ := by
  obtain ⟨cps⟩ := a
  have : cps = #[c] := by
    apply Array.toList_inj.mp
    exact h
  rw [this]
theorem opd_inS : OpD X (compareOp .In) (inS false) := by
  intro pins s σ H x y v u Q I rx ry ⟨pp, ps, G, dx, dy, d, c, r1, r2, e, k⟩
  unfold inS at e
  split at e
  · next a z =>
    split at e
    · next n hn =>
      cases e
      have := sign_of hn
      subst this
      cases r1
      cases r2
      exact op_in_sign pins s σ H _ _ v u Q I rx ry ⟨n, z, rfl, rfl, k _ G H (Go.refl c) (.bl _)⟩
    · cases e
  · cases e
def ltS : PyData → PyData → Option PyData
  | .str a, .str b => some (.bool (decide (a.cps.toList < b.cps.toList)))
  | _, _ => none
theorem opd_ltS : OpD X (compareOp .Lt) ltS := by
  intro pins s σ H x y v u Q I rx ry ⟨pp, ps, G, dx, dy, d, c, r1, r2, e, k⟩
  unfold ltS at e
  split at e
  · next a b =>
    cases e
    cases r1
    cases r2
    exact op_lt_str pins s σ H _ _ v u Q I rx ry ⟨a, b, rfl, rfl, k _ G H (Go.refl c) (.bl _)⟩
  · cases e
def chars (z : Str) : List PyData := z.cps.toList.map fun c => .str ⟨#[c]⟩
def iStrD (g : EG) : AG := fun S ps => bindP (g S ps) fun d p => match d with
  | .str z => some (chars z, p)
  | _ => none
theorem wk_str {K : PySem.W.Frag} {pp : PP} {G : Hp} {z : Str} : Wk K pp G (Its z) (chars z) := by
  have hl : (chars z).length = z.cps.size := by simp [chars]
  refine Wk.flat (fun i H' g hi => ?_) (fun i H' g hi => ?_) (fun i H' x H'' d g hd hy => ?_)
  · rw [hl] at hi
    exact hi
  · rw [hl] at hi
    exact hi
  · obtain ⟨h1, c, h2, h3⟩ := hy
    refine ⟨h1, ?_⟩
    subst h3
    unfold chars at hd
    rw [List.getElem?_map, Array.getElem?_toList, h2] at hd
    cases hd
    exact .str _
theorem pdi_str {tg l : Expr} {g : EG} (h : PD X l g) : PDI X tg l (iStrD g) := pi_imp (pi_str h) fun σ H R ⟨pp, ps, G, S, ds, ps', c, s, e, k⟩ => by
  obtain ⟨d, p1, e1, e⟩ := bindP_inv e
  split at e
  · next z =>
    cases e
    exact ⟨pp, ps, G, S, _, _, c, s, e1, fun v G' H' g' r' => ⟨z, rv_str r', k _ G' H' g' wk_str⟩⟩
  · cases e
def splitD : PyData → PyData → Option PyData
  | .str a, .str b => if !(b.length == 0) && decide (a.length + 2 ≤ 16777216) then some (.list ((Txt.split a b).map .str)) else none
  | _, _ => none
theorem splitD_inv {x y d : PyData} (h : splitD x y = some d) : ∃ a b, x = .str a ∧ y = .str b ∧ (b.length == 0) = false ∧ a.length + 2 ≤ 16777216 ∧ d = .list ((Txt.split a b).map .str) := by
  unfold splitD at h
  split at h
  · next a b =>
    obtain ⟨h1, rfl⟩ := ite_inv h
    rw [Bool.and_eq_true] at h1
    exact ⟨a, b, rfl, rfl, by simpa using h1.1, of_decide_eq_true h1.2, rfl⟩
  · cases h
theorem rvl_strs {K : PySem.W.Frag} {pp : PP} {G : Hp} : ∀ zs : List Str, RvL K pp G (zs.map V.str) (zs.map PyData.str)
  | [] => .nil
  | z :: zs => .cons (.str z) (rvl_strs zs)
theorem pd_split {o e : Expr} {go ge : EG} {apos pos : Pos} (ho : PD X o go) (he : PD X e ge) (hs : starEach [e] X.env = [(false, eval e X.env)] := by rfl) (hbase : attributeBase o "split" X.env (eval o X.env) = eval o X.env := by rfl) (hline : (apos.endLine == pos.line) = true := by rfl) :
    PD X (.Call (.Attribute o "split" apos) [e] [] pos) (eOp splitD go ge) := pe_imp (pe_split ho he hs hbase hline) fun σ H Q ⟨pp, ps, G, S, d, ps', c, s, e, k⟩ => by
  obtain ⟨x, p1, e1, e⟩ := bindP_inv e
  obtain ⟨y, p2, e2, e⟩ := bindP_inv e
  obtain ⟨d', e3, e⟩ := map_inv e
  cases e
  obtain ⟨a, b, rfl, rfl, h1, h2, rfl⟩ := splitD_inv e3
  refine ⟨pp, ps, G, S, _, p1, c, s, e1, fun v G1 H1 g1 r1 => ⟨⟨a, rv_str r1⟩, pp, p1, G1, S, _, _, g1.cf, s.go g1, e2, fun w G2 H2 g2 r2 => ⟨a, b, rv_str r1, by rw [rv_str r2], h1, by rw [sizeLine_eq]; exact h2, fun p hp => ?_⟩⟩⟩
  have gl : Go pp _ [] G2 H2 (upd G2 p (.lst ((Txt.split a b).map V.str))) (upd H2 p (.lst ((Txt.split a b).map V.str))) := Go.lay g2.cf hp
  exact k _ _ _ ((g1.trans g2).trans gl) (.lst (.inl upd_same) (rvl_strs _))
def negI : PyData → Option PyData
  | .int i => some (.int (-i))
  | _ => none
theorem pd_neg {a : Expr} {g : EG} {pos : Pos} (h : PD X a g) : PD X (.UnaryOp .USub a pos) (eUn negI g) := pe_imp (pe_un un_neg h) fun σ H Q ⟨pp, ps, G, S, d, ps', c, s, e, k⟩ => by
  obtain ⟨x, p1, e1, e⟩ := bindP_inv e
  obtain ⟨d', e2, e⟩ := map_inv e
  cases e
  unfold negI at e2
  split at e2
  · next i =>
    cases e2
    exact ⟨pp, ps, G, S, _, _, c, s, e1, fun v G1 H1 g1 r1 => ⟨i, rv_int r1, k _ G1 H1 g1 (.int _)⟩⟩
  · cases e2
theorem pe_lockN {e : Expr} {t : TE} (h : PE X e t) : PE X e (fun σ H Q => t σ H fun v H1 => ∃ p u, v = .ref p ∧ H1 p = some u ∧ Mut (some u) ∧ ∀ od, Q v (upd H1 p (.frz od u))) :=
  ⟨fun pins st σ H Q J q => thn (h.run pins st σ H _ J q) fun u st' ⟨v, H1, J1, r, p, o, hv, hp, mu, kk⟩ => by
    obtain ⟨od, J2⟩ := J1.lock hp mu
    exact ⟨v, _, J2, r, kk od⟩⟩
theorem callR_lock {f : Value} {r : List V → Hp → VK → Prop} (h : CallR X f r) : CallR X f (fun xs H Q => r xs H fun v H1 => ∃ p u, v = .ref p ∧ H1 p = some u ∧ Mut (some u) ∧ ∀ od, Q v (upd H1 p (.frz od u))) :=
  fun pins st σ H xs us Q J rs q => thn (h pins st σ H xs us _ J rs q) fun u st' ⟨v, H1, J1, rv, p, o, hv, hp, mu, kk⟩ => by
    obtain ⟨od, J2⟩ := J1.lock hp mu
    exact ⟨v, _, J2, rv, kk od⟩
theorem pd_emp {pos : Pos} : PD X (.Dict [] [] pos) (eC (.dict [])) := pe_imp (pe_lockN pe_dnewK) fun σ H Q ⟨pp, ps, G, S, d, ps', c, s, e, k⟩ => by
  cases e
  intro p hp
  refine ⟨p, _, rfl, upd_same, trivial, fun od => ?_⟩
  rw [upd_upd]
  have gl : Go pp ps [] G H (upd G p (.frz od (.dK []))) (upd H p (.frz od (.dK []))) := Go.lay c hp nt_frz
  exact k _ _ _ gl (.dct ⟨od, upd_same⟩ .nil)
theorem pd_call0 {k : Nat} {f : Addr} {fd : FuncData} {fn : List PyData → Pt → Option (PyData × Pt)} {x : Str} {p pos : Pos} (F : FnD X.prog X.w X.K X.mg X.base k f fd [] fn) (hr : Rm k X.A) (hg : Gl X x) (hm : X.mg x = some (.ref f)) (hk : PySem.W.keepIn X.K (.ref f) = true) (hb : Binds X.K fd [] []) (hdb : (x == ("__debug__" : Str)) = false := by decide) :
    PD X (.Call (.Name x p) [] [] pos) (eCall fn aNil) := pe_imp (pe_callG0 F hr hg hm hk hb hdb) fun σ H Q ⟨pp, ps, G, S, d, ps', c, s, e, k⟩ => by
  obtain ⟨ds, p1, e1, e⟩ := bindP_inv e
  cases e1
  exact ⟨pp, _, G, [], d, ps', rfl, c, .nil, e, fun v G2 H2 g2 r2 => k v G2 H2 g2 r2⟩
abbrev PDK (X : Cx) (kws : List Keyword) (gs : AG) : Prop := PK X kws (TDA X.K gs)
theorem pdk_nil : PDK X [] aNil := ⟨fun pos pins s σ H Q I ⟨pp, ps, G, S, d, ps', c, sl, e, k⟩ => by
  cases e
  exact pk_nil.run pos pins s σ H Q I (k [] G H (Go.refl c) .nil)⟩
theorem pdk_cons {nm : Option Str} {e : Expr} {kpos : Pos} {kws : List Keyword} {g : EG} {gs : AG} (h : PD X e g) (hs : PDK X kws gs) : PDK X (⟨nm, e, kpos⟩ :: kws) (aCons g gs) := ⟨fun pos pins s σ H Q I ⟨pp, ps, G, S, d, ps', c, sl, e, k⟩ => by
  obtain ⟨x, p1, e1, e⟩ := bindP_inv e
  obtain ⟨xs, p2, e2, e⟩ := bindP_inv e
  cases e
  exact (pk_cons (nm := nm) (kpos := kpos) h hs).run pos pins s σ H Q I ⟨pp, ps, G, S, x, p1, c, sl, e1, fun v G1 H1 g1 r1 => ⟨pp, p1, G1, S, xs, _, g1.cf, sl.go g1, e2, fun vs G2 H2 g2 r2 => k _ G2 H2 (g1.trans g2) (.cons (Rv.mono g2.gg _ _ r1) r2)⟩⟩⟩
def eCallK (f : List PyData → Pt → Option (PyData × Pt)) (is : List Nat) (gs : AG) : EG := fun S ps => bindP (gs S ps) fun ds p => f (permL is ds) p
theorem rvl_perm {K : PySem.W.Frag} {pp : PP} {G : Hp} {vs : List V} {ds : List PyData} (r : RvL K pp G vs ds) : ∀ is : List Nat, RvL K pp G (permL is vs) (permL is ds)
  | [] => .nil
  | i :: is => by
    cases q : ds[i]? with
    | none =>
      have q2 : vs[i]? = none := by
        rw [List.getElem?_eq_none_iff] at q ⊢
        rw [r.length]
        exact q
      have h1 : permL (i :: is) vs = permL is vs := by simp [permL, q2]
      have h2 : permL (i :: is) ds = permL is ds := by simp [permL, q]
      rw [h1, h2]
      exact rvl_perm r is
    | some d =>
      obtain ⟨v, q2, h⟩ := r.get q
      have h1 : permL (i :: is) vs = v :: permL is vs := by simp [permL, q2]
      have h2 : permL (i :: is) ds = d :: permL is ds := by simp [permL, q]
      rw [h1, h2]
      exact .cons h (rvl_perm r is)
theorem pd_callK {k : Nat} {f : Addr} {fd : FuncData} {qs ks : List Str} {is : List Nat} {fn : List PyData → Pt → Option (PyData × Pt)} {x : Str} {p pos : Pos} {kws : List Keyword} {gs : AG} (F : FnD X.prog X.w X.K X.mg X.base k f fd qs fn) (hr : Rm k X.A) (hg : Gl X x) (hm : X.mg x = some (.ref f)) (hk : PySem.W.keepIn X.K (.ref f) = true)
    (hb : ∀ (s : Shared) (ws : List Value), ws.length = ks.length → BindsTo s fd ⟨[], ks.zip ws⟩ (qs.zip (permL is ws))) (hkw : PDK X kws gs) (hl : ∀ S ps ds p, gs S ps = some (ds, p) → ds.length = ks.length) (hp : ∀ ds : List PyData, ds.length = ks.length → (permL is ds).length = qs.length)
    (hall : (backToKw pos (keywordEach kws X.env)).all (·.1.isSome) = true := by rfl) (hks : (backToKw pos (keywordEach kws X.env)).filterMap (·.1) = ks := by rfl) (hdb : (x == ("__debug__" : Str)) = false := by decide) (hpl : ((backTo pos (starEach [] X.env)).any (·.1) || (backToKw pos (keywordEach kws X.env)).any (·.1.isNone)) = false := by rfl) :
    PD X (.Call (.Name x p) [] kws pos) (eCallK fn is gs) :=
  pe_imp (pe_callGK F hr hg hm hk hb hkw (fun σ H Q ⟨pp, ps, G, S, ds, ps', c, s, e, k⟩ => ⟨pp, ps, G, S, ds, ps', c, s, e, fun vs G' H' g' r' => ⟨by rw [r'.length]; exact hl _ _ _ _ e, k vs G' H' g' r'⟩⟩) hall hks hdb hpl) fun σ H Q ⟨pp, ps, G, S, d, ps', c, s, e, k⟩ => by
    obtain ⟨ds, p1, e1, e⟩ := bindP_inv e
    refine ⟨pp, ps, G, S, ds, p1, c, s, e1, fun vs G1 H1 g1 r1 => ?_⟩
    exact ⟨pp, p1, G1, permL is ds, d, ps', hp ds (hl _ _ _ _ e1), g1.cf, rvl_perm r1 is, e, fun v G2 H2 g2 r2 => k v G2 H2 (g1.trans g2) r2⟩
abbrev TgtL := List PyData → Sd → Option Sd
def tgsD (K : PySem.W.Frag) (is : List Nat) (t : TgtL) : TGs := fun vs σ H Q => ∃ (pp : PP) (ps : Pt) (G : Hp) (S : Sd) (ds : List PyData) (S' : Sd), Cf pp ps G H ∧ Sl K pp G H S σ ∧ RvL K pp G vs ds ∧ t ds S = some S' ∧
  ∀ σ', Sl K pp G H S' σ' → (∀ b, Owned S' σ' b → Owned S σ b) → σ'.length = σ.length → (∀ j, j ∉ is → σ'[j]? = σ[j]?) → Q σ' H
abbrev PDGs (X : Cx) (es : List Expr) (is : List Nat) (t : TgtL) : Prop := PGs X es (tgsD X.K is t)
def tlNil : TgtL := fun ds S => match ds with
  | [] => some S
  | _ => none
def tlCons (t : Tgt) (ts : TgtL) : TgtL := fun ds S => match ds with
  | d :: r => match t d S with
    | some S1 => ts r S1
    | none => none
  | [] => none
def tTup (n : Nat) (ts : TgtL) : Tgt := fun d S => match d with
  | .tuple ds => if ds.length = n then ts ds S else none
  | .dict [(.none, x), (.int 0, y)] => if n = 2 then ts [x, y] S else none
  | _ => none
theorem pgs_imp {es : List Expr} {t t' : TGs} (h : PGs X es t) (i : ∀ v σ H Q, t' v σ H Q → t v σ H Q) : PGs X es t' := ⟨fun pins s σ H vs us Q I r q => h.run pins s σ H vs us Q I r (i vs σ H Q q)⟩
theorem pdgs_nil : PDGs X [] [] tlNil := pgs_imp pgs_nil fun vs σ H Q ⟨pp, ps, G, S, ds, S', c, s, r, e, k⟩ => by
  unfold tlNil at e
  split at e
  · cases e
    cases r
    exact ⟨rfl, k σ s (fun _ z => z) rfl fun _ _ => rfl⟩
  · cases e
theorem pdgs_cons {e : Expr} {es : List Expr} {is js : List Nat} {t : Tgt} {ts : TgtL} (h1 : PDG X e is t) (h2 : PDGs X es js ts) (hs : (assignEach (e :: es) X.env).map (·.2) = assign e X.env :: (assignEach es X.env).map (·.2) := by rfl) : PDGs X (e :: es) (is ++ js) (tlCons t ts) :=
  pgs_imp (pgs_cons h1 h2 hs) fun vs σ H Q ⟨pp, ps, G, S, ds, S', c, s, r, e, k⟩ => by
    unfold tlCons at e
    split at e
    · next d rest =>
      split at e
      · next S1 e1 =>
        cases r with
        | cons r1 r2 =>
          refine ⟨_, _, rfl, pp, ps, G, S, d, S1, c, s, r1, e1, fun σ1 s1 o1 l1 k1 => ⟨pp, ps, G, S1, rest, S', c, s1, r2, e, fun σ2 s2 o2 l2 k2 => k σ2 s2 (fun b z => o1 b (o2 b z)) (l2.trans l1) fun j hj => ?_⟩⟩
          rw [k2 j (fun z => hj (List.mem_append_right _ z)), k1 j (fun z => hj (List.mem_append_left _ z))]
      · cases e
    · cases e
theorem rvk_first {K : PySem.W.Frag} {pp : PP} {G : Hp} {kvs : List (Key × V)} {es r : List (PyData × PyData)} {d : PyData} (h : RvK K pp G kvs es) (e : es = (.none, d) :: r) : False := by
  cases h with
  | nil => cases e
  | @cons k _ _ _ _ _ _ =>
    have e1 := (Prod.mk.inj (List.cons.inj e).1).1
    cases k <;> cases e1
theorem mxk_first {es r : List (PyData × PyData)} {nks : List NestedKey} {d : PyData} (h : MxK es nks) (e : es = (.none, d) :: r) : False := by
  subst e
  obtain ⟨l, z⟩ := mxOk_head h.ok
  cases z
theorem rv_pr {K : PySem.W.Frag} {pp : PP} {G : Hp} {v : V} {x y : PyData} (h : Rv K pp G v (prD x y)) : ∃ a v1 v2, v = .ref a ∧ SqT K G a [v1, v2] ∧ Rv K pp G v1 x ∧ Rv K pp G v2 y := by
  cases h with
  | dct hs ha => exact (rvk_first ha rfl).elim
  | dkx _ h _ => exact (mxk_first h rfl).elim
  | pr hs ha hb => exact ⟨_, _, _, rfl, hs, ha, hb⟩
theorem pdg_tup {es : List Expr} {k : Nat} {pos : Pos} {n : Nat} {is : List Nat} {ts : TgtL} (hc : X.calm = true) (h : PDGs X es is ts) (hn : (assignEach es X.env).length = n := by rfl) (hst : (assignEach es X.env).findIdx? (·.1) = none := by rfl) : PDG X (.Tuple es k pos) is (tTup n ts) :=
  pg_imp (pg_tup hc h hn hst) fun v σ H Q ⟨pp, ps, G, S, d, S', c, s, r, e, k⟩ => by
    unfold tTup at e
    split at e
    · next ds =>
      split at e
      · next hl =>
        obtain ⟨a, xs, rfl, hx, ha⟩ := rv_tup r
        exact ⟨a, xs, rfl, cf_t c hx, by rw [ha.length]; exact hl, pp, ps, G, S, ds, S', c, s, ha, e, k⟩
      · cases e
    · next x y =>
      split at e
      · next hl =>
        obtain ⟨a, v1, v2, rfl, hx, r1, r2⟩ := rv_pr r
        exact ⟨a, _, rfl, same_t c.ex hx, hl.symm, pp, ps, G, S, _, S', c, s, .cons r1 (.cons r2 .nil), e, k⟩
      · cases e
    · cases e
def sAsg (t : Tgt) (g : EG) : SG := fun S ps => bindP (g S ps) fun d p => match t d S with
  | some S' => some (.nx S', p)
  | none => none
theorem pds_asg {tg e : Expr} {is : List Nat} {t : Tgt} {g : EG} {pos : Pos} (ht : PDG X tg is t) (h : PD X e g)
    (hs : swapsWithSole [tg] e pos.line X.env = pure false := by rfl) (hw : swappedStores [tg] e X.env = pure none := by rfl) (h1 : (assignEach [tg] X.env).map (·.2) = [assign tg X.env] := by rfl) : PDS X (.Assign [tg] e pos) (sAsg t g) :=
  ps_imp (ps_asg h ht hs hw h1) fun D σ H ⟨pp, ps, G, S, r, ps', c, s, e, k⟩ => by
    obtain ⟨d, p1, e1, e⟩ := bindP_inv e
    split at e
    · next S' e2 =>
      cases e
      exact ⟨pp, ps, G, S, d, _, c, s, e1, fun v G' H' g' r' => ⟨pp, _, G', S, d, S', g'.cf, s.go g', r', e2, fun σ' s' o' l' _ => k σ' G' H' (g'.toS o') s'⟩⟩
    · cases e
end
end DL
set_option Elab.async false
set_option linter.all false
set_option maxRecDepth 100000
namespace DL
open PySem L2
section
variable {prog : Program} {w : World} {A : Around} {E : Value → Shared → Prop} {s : Shared}
end
section
variable {X : Cx}
end
section
variable [TBL] {X : Cx}
def zipD (ds es : List PyData) : List PyData := (ds.zip es).map fun p => prD p.1 p.2
def iZipD (gs : AG) : AG := fun S ps => match gs S ps with
  | some ([.list ds, .list es], p) => some (zipD ds es, p)
  | _ => none
theorem wk_zip {K : PySem.W.Frag} {pp : PP} {G : Hp} {a b : Addr} {ds es : List PyData} (h1 : Rv K pp G (.ref a) (.list ds)) (h2 : Rv K pp G (.ref b) (.list es)) : Wk K pp G (Itz K a b) (zipD ds es) := by
  obtain ⟨a', xs, e1, hx, ha⟩ := rv_lst h1
  obtain ⟨b', ys, e2, hy, hb⟩ := rv_lst h2
  cases e1
  cases e2
  have hl : (zipD ds es).length = min ds.length es.length := by simp [zipD]
  refine ⟨fun i H' g hi => ?_, fun i H' g hi => ?_, fun i H' x H'' d G1 q g c hd hyl => ?_⟩
  · rw [hl] at hi
    obtain ⟨v, hv, _⟩ := ha.get (List.getElem?_eq_getElem (show i < ds.length by omega))
    obtain ⟨w, hw, _⟩ := hb.get (List.getElem?_eq_getElem (show i < es.length by omega))
    exact ⟨xs, ys, v, w, .inl (same_l g hx), .inl (same_l g hy), hv, hw⟩
  · rw [hl] at hi
    exact ⟨xs, ys, .inl (same_l g hx), .inl (same_l g hy), by rw [ha.length, hb.length]; omega⟩
  · obtain ⟨T, x1, y1, rfl, hT, rfl, k1, k2⟩ := hyl
    have hi : i < (zipD ds es).length := (List.getElem?_eq_some_iff.mp hd).1
    rw [hl] at hi
    have hd1 : ds[i]? = some ds[i] := List.getElem?_eq_getElem (by omega)
    have hd2 : es[i]? = some es[i] := List.getElem?_eq_getElem (by omega)
    obtain ⟨v, hv, rv⟩ := ha.get hd1
    obtain ⟨w, hw, rw'⟩ := hb.get hd2
    have z1 := k1 xs (.inl (same_l (g.trans c.ex) hx))
    have z2 := k2 ys (.inl (same_l (g.trans c.ex) hy))
    rw [hv] at z1
    rw [hw] at z2
    cases z1
    cases z2
    have ed : d = prD ds[i] es[i] := by
      unfold zipD at hd
      rw [List.getElem?_map, List.getElem?_zip_eq_some (z := (ds[i], es[i])) |>.mpr ⟨hd1, hd2⟩] at hd
      cases hd
      rfl
    subst ed
    have gl : Go pp q [] G1 H' (upd G1 T (.tup [x1, y1])) (upd H' T (.tup [x1, y1])) := Go.lay c hT
    exact ⟨_, gl, .pr (.inl (.inl upd_same)) (Rv.mono (g.trans gl.gg) _ _ rv) (Rv.mono (g.trans gl.gg) _ _ rw')⟩
theorem iZip_D {gs : AG} (σ : L2.St) (H : Hp) (R : It → Hp → Prop) (h : tiW X.K (iZipD gs) σ H R) : iZip X.K (TDA X.K gs) σ H R := by
  obtain ⟨pp, ps, G, S, ds, ps', c, s, e, k⟩ := h
  unfold iZipD at e
  split at e
  · next xs ys p1 e1 =>
    cases e
    refine ⟨pp, ps, G, S, _, _, c, s, e1, fun vs G' H' g' r' => ?_⟩
    obtain ⟨v, w, rfl, r1, r2⟩ := rvl_two r'
    obtain ⟨a, us, rfl, hx, _⟩ := rv_lst r1
    obtain ⟨b, ws, rfl, hy, _⟩ := rv_lst r2
    exact ⟨a, b, us, ws, rfl, cf_l g'.cf hx, cf_l g'.cf hy, k _ G' H' g' (wk_zip r1 r2)⟩
  · cases e
theorem pdi_zip {e e2 : Expr} {gs : AG} {p pos tpos : Pos} {elts : List Expr} {kk : Nat} (hg : Gl X "zip") (hm : X.mg "zip" = none) (ha : PDA X [e, e2] gs)
    (hs : starEach [e, e2] X.env = (false, eval e X.env) :: starEach [e2] X.env := by rfl) (hpl : (backTo pos (starEach [e2] X.env)).any (·.1) = false := by rfl) :
    PDI X (.Tuple elts kk tpos) (.Call (.Name "zip" p) [e, e2] [] pos) (iZipD gs) := pi_imp (pi_zip hg hm ha hs hpl) iZip_D
end
end DL
set_option Elab.async false
set_option linter.all false
set_option maxRecDepth 100000
namespace DL
open PySem L2 PyProof.Rows
def once (zs : List Str) : List Str := zs.foldl (fun acc z => if z ∈ acc then acc else acc ++ [z]) []
section
variable {prog : Program} {w : World} {A : Around} {R : Result → Shared → Prop} {J : Addr} {fp wr : List Addr} {GG : Array GenState → Array GenState → Prop} {n : Nat} {PP : Nat → Value → Prop} {St : Nat → Shared → Prop}
abbrev Made (prog : Program) (w : World) (h : Heap) (T : Addr) (zs : List Str) (i : Nat) : Prop := h.SetOf (PySem.strKind prog w) T (fun k => decide (k ∈ once (zs.take i))) (once (zs.take i)).length
end
section
variable {prog : Program} {w : World} {A : Around} {E : Value → Shared → Prop} {s : Shared}
end
section
variable [TBL] {X : Cx}
def strsOf : List PyData → Option (List Str)
  | [] => some []
  | .str z :: r => (strsOf r).map (z :: ·)
  | _ :: _ => none
theorem strsOf_eq : ∀ {ds : List PyData} {zs : List Str}, strsOf ds = some zs → ds = zs.map .str
  | [], _, h => by
    cases h
    rfl
  | .str z :: r, _, h => by
    obtain ⟨zs, h1, rfl⟩ := map_inv (show (strsOf r).map (z :: ·) = _ from h)
    rw [strsOf_eq h1]
    rfl
theorem rvl_strs_inv {K : PySem.W.Frag} {pp : PP} {G : Hp} : ∀ {zs : List Str} {vs : List V}, RvL K pp G vs (zs.map PyData.str) → vs = zs.map V.str
  | [], _, h => by
    cases h
    rfl
  | z :: zs, _, h => by
    cases h with
    | cons a b =>
      rw [rv_str a, rvl_strs_inv b]
      rfl
end
end DL
set_option Elab.async false
set_option linter.all false
set_option maxRecDepth 100000
namespace DL
open PySem L2 PyProof.Rows
def leS (a b : Str) : Bool := !decide (b.cps.toList < a.cps.toList)
theorem leS_iff {a b : Str} : leS a b = true ↔ a.cps.toList ≤ b.cps.toList := by
  unfold leS
  rw [Bool.not_eq_true', decide_eq_false_iff_not]
  exact Iff.rfl
theorem str_ext {a b : Str} (h : a.cps.toList = b.cps.toList) : a = b := by
  obtain ⟨x⟩ := a
  obtain ⟨y⟩ := b
  have : x = y := Array.toList_inj.mp h
  rw [this]
theorem leS_trans {a b c : Str} (h1 : leS a b = true) (h2 : leS b c = true) : leS a c = true := leS_iff.mpr (List.le_trans (leS_iff.mp h1) (leS_iff.mp h2))
theorem leS_anti {a b : Str} (h1 : leS a b = true) (h2 : leS b a = true) : a = b := str_ext (List.le_antisymm (leS_iff.mp h1) (leS_iff.mp h2))
theorem leS_total (a b : Str) : (leS a b || leS b a) = true := by
  rw [Bool.or_eq_true, leS_iff, leS_iff]
  exact List.le_total _ _
theorem rising_pw : ∀ (l : List Str) (p : Str), risingS p l = true → (p :: l).Pairwise (fun a b => leS a b = true)
  | [], p, _ => by simp
  | x :: r, p, h => by
    have h' : (!PySem.Spec.ltCps x.cps.toList p.cps.toList && risingS x r) = true := h
    rw [Bool.and_eq_true] at h'
    have hpx : leS p x = true := by
      unfold leS
      rw [← ltCps_eq]
      exact h'.1
    have ih := rising_pw r x h'.2
    rw [List.pairwise_cons]
    refine ⟨fun y hy => ?_, ih⟩
    rcases List.mem_cons.mp hy with rfl | hy
    · exact hpx
    · exact leS_trans hpx ((List.pairwise_cons.mp ih).1 y hy)
theorem sorted_pw {l : List Str} (h : sortedS l = true) : l.Pairwise (fun a b => leS a b = true) := by
  cases l with
  | nil => exact .nil
  | cons x r => exact rising_pw r x h
theorem sorted_one {ys zs : List Str} (hp : ys.Perm zs) (hs : sortedS ys = true) : ys = zs.mergeSort leS :=
  List.Perm.eq_of_pairwise (fun a b _ _ => leS_anti) (sorted_pw hs) (List.pairwise_mergeSort (le := leS) (fun a b c h1 h2 => leS_trans h1 h2) leS_total zs) (hp.trans (List.mergeSort_perm zs leS).symm)
section
variable [TBL] {X : Cx}
def sortSD : PyData → Option PyData
  | .list ds => match strsOf ds with
    | some zs => if decide (zs.length < 64) then some (.list ((zs.mergeSort leS).map .str)) else none
    | none => none
  | _ => none
theorem sortSD_inv {x d : PyData} (h : sortSD x = some d) : ∃ zs : List Str, x = .list (zs.map .str) ∧ zs.length < 64 ∧ d = .list ((zs.mergeSort leS).map .str) := by
  unfold sortSD at h
  split at h
  · split at h
    · next zs e =>
      obtain ⟨h1, rfl⟩ := ite_inv h
      exact ⟨zs, by rw [strsOf_eq e], of_decide_eq_true h1, rfl⟩
    · cases h
  · cases h
theorem cd_sortS : CallR X (.builtin "sorted") (rDL X.K (one sortSD)) := by
  intro pins s σ H vs us Q I rs ⟨pp, ps, G, xs, d, c, r, e, k⟩
  obtain ⟨x, ex, e1⟩ := one_inv e
  subst ex
  clear e
  obtain ⟨v, rfl, r1⟩ := rvl_one r
  obtain ⟨zs, rfl, h64, rfl⟩ := sortSD_inv e1
  obtain ⟨a, ws, rfl, hx, ra⟩ := rv_lst r1
  have := rvl_strs_inv ra
  subst this
  refine cr_sortedS pins s σ H _ us Q I rs ⟨a, zs, rfl, cf_l c hx, h64, fun ys p hp hs hn => ?_⟩
  rw [sorted_one hp hs]
  have gl : Go pp ps [] G H (upd G p (.lst ((zs.mergeSort leS).map V.str))) (upd H p (.lst ((zs.mergeSort leS).map V.str))) := Go.lay c hn
  exact k _ _ _ gl (.lst (.inl upd_same) (rvl_strs _))
end
section
variable [TBL] {X : Cx}
theorem rvl_rep {K : PySem.W.Frag} {pp : PP} {G : Hp} {vs : List V} {ds : List PyData} (r : RvL K pp G vs ds) : ∀ n : Nat, RvL K pp G (List.replicate n vs).flatten (List.replicate n ds).flatten
  | 0 => .nil
  | n + 1 => by
    rw [List.replicate_succ, List.replicate_succ, List.flatten_cons, List.flatten_cons]
    exact r.app (rvl_rep r n)
def eCallPot (fn : List PyData → Pt → Option (PyData × Pt)) (fp : List PyData → Pt → Option (List PyData × Pt)) (gs : AG) : EG := fun S ps => bindP (gs S ps) fun ds p => match fp ds p with
  | some ([.int a, .int b], p') => match fn [potD] (a, b, 0) with
    | some (d, _) => if freeA d then some (d, p') else none
    | none => none
  | _ => none
theorem go_back {pp : PP} {ps q : Pt} {G H G1 H1 G2 H2 : Hp} {p : Addr} (g1 : Go pp ps [] G H G1 H1) (hp : H p = none) (np : pp.no p) (g2 : Go (ppP p) q [] G1 H1 G2 H2) : Go pp ps [] G H G2 H2 := by
  refine ⟨g1.gg.trans g2.gg, ⟨g2.cf.ex, fun i a ha => ?_, g1.cf.pnd, g2.cf.tb, g2.cf.vt, g2.cf.ot⟩, fun b o e n => ?_, fun b o e n z nt => ?_, fun b e => g1.there b (g2.there b e)⟩
  · obtain ⟨k1, k2⟩ := g1.cf.pot i a ha
    have ne : (ppP p).no a := fun j z => np i (by rw [ha, (ppP_inv z).2])
    obtain ⟨xs, ex⟩ := atP_lst ps i
    refine ⟨?_, g2.keep a _ k2 ne (by simp) (by rw [ex]; exact nt_lst)⟩
    cases w : G2 a with
    | none => rfl
    | some o =>
      have := g2.fresh a o w k1
      rw [k2] at this
      cases this
  · cases w : G1 b with
    | none => exact g1.there b (g2.fresh b o e w)
    | some u => exact g1.fresh b u w n
  · have ne : (ppP p).no b := fun j y => by
      rw [(ppP_inv y).2, hp] at e
      cases e
    exact g2.keep b o (g1.keep b o e n z nt) ne z nt
theorem pd_callPot {k k2 : Nat} {f fo : Addr} {fd fdo : FuncData} {qs : List Str} {qn : Str} {fn : List PyData → Pt → Option (PyData × Pt)} {fp : List PyData → Pt → Option (List PyData × Pt)} {x y : Str} {p p2 pos pos2 : Pos} {e : Expr} {es : List Expr} {gs : AG}
    (F : FnD X.prog X.w X.K X.mg X.base k f fd [qn] fn) (hr : Rm k X.A) (hg : Gl X x) (hm : X.mg x = some (.ref f)) (hk : PySem.W.keepIn X.K (.ref f) = true) (hb : Binds X.K fd [qn] [])
    (Fo : FnN X.prog X.w X.K X.mg X.base k2 fo fdo qs fp) (hro : Rm k2 X.A) (hgo : Gl X y) (hmo : X.mg y = some (.ref fo)) (hko : PySem.W.keepIn X.K (.ref fo) = true) (hbo : Binds X.K fdo qs []) (ha : PDA X (e :: es) gs) (hl : ∀ S ps ds p, gs S ps = some (ds, p) → ds.length = qs.length)
    (hdx : (x == ("__debug__" : Str)) = false := by decide) (hdy : (y == ("__debug__" : Str)) = false := by decide) (he : starEach (e :: es) X.env = (false, eval e X.env) :: starEach es X.env := by rfl) (hpl : (backTo pos2 (starEach es X.env)).any (·.1) = false := by rfl)
    (he1 : starEach [.Call (.Name y p2) (e :: es) [] pos2] X.env = (false, eval (.Call (.Name y p2) (e :: es) [] pos2) X.env) :: starEach [] X.env := by rfl) :
    PD X (.Call (.Name x p) [.Call (.Name y p2) (e :: es) [] pos2] [] pos) (eCallPot fn fp gs) :=
  pe_imp (pe_callG F hr hg hm hk hb (pa_cons (pe_callG Fo hro hgo hmo hko hbo ha hdy he hpl) pa_nil he1) hdx he1 rfl) fun σ H Q ⟨pp, ps, G, S, d, ps', c, s, e, kk⟩ => by
    obtain ⟨ds, p1, e1, e⟩ := bindP_inv e
    split at e
    · next a b p2 e2 =>
      split at e
      · next d2 q2 e3 =>
        obtain ⟨hf, e⟩ := ite_inv e
        cases e
        refine ⟨pp, ps, G, S, ds, p1, c, s, e1, fun vs G1 H1 g1 r1 => ⟨pp, p1, G1, ds, _, _, hl _ _ _ _ e1, g1.cf, r1, e2, fun pa us G2 H2 g2 hp1 hg2 hp2 rvu => ?_⟩⟩
        obtain ⟨va, vb, rfl, ra, rb⟩ := rvl_two rvu
        cases ra
        cases rb
        have g12 := g1.trans g2
        have hp0 : H pa = none := g1.none_of hp1
        have npp : pp.no pa := c.pne hp0
        have cf2 : Cf (ppP pa) (a, b, 0) G2 H2 := ⟨g2.cf.ex, fun j x hx => by
          obtain ⟨rfl, rfl⟩ := ppP_inv hx
          exact ⟨hg2, hp2⟩, fun i j a hi hj => by rw [(ppP_inv hi).1, (ppP_inv hj).1], g2.cf.tb, g2.cf.vt, g2.cf.ot⟩
        exact ⟨ppP pa, (a, b, 0), G2, [potD], _, _, rfl, cf2, .cons (.pot rfl) .nil, e3, fun v G3 H3 g3 r3 => kk v G3 H3 (go_back g12 hp0 npp g3) (Rv.swap _ _ hf r3)⟩
      · cases e
    · cases e
end
end DL
namespace DL
theorem permL_len {α : Type} {is : List Nat} {n m : Nat} (h : (permL is (List.range n)).length = m) (ds : List α) (hd : ds.length = n) : (permL is ds).length = m := by
  subst hd
  rw [← h]
  clear h
  induction is with
  | nil => rfl
  | cons i is ih =>
    by_cases hi : i < ds.length
    · have e1 : permL (i :: is) ds = ds[i] :: permL is ds := by simp [permL, List.getElem?_eq_getElem hi]
      have e2 : permL (i :: is) (List.range ds.length) = i :: permL is (List.range ds.length) := by simp [permL, hi]
      rw [e1, e2, List.length_cons, List.length_cons, ih]
    · have e1 : permL (i :: is) ds = permL is ds := by simp [permL, List.getElem?_eq_none (Nat.le_of_not_lt hi)]
      have e2 : permL (i :: is) (List.range ds.length) = permL is (List.range ds.length) := by simp [permL, hi]
      rw [e1, e2, ih]
end DL
set_option Elab.async false
set_option linter.all false
set_option maxRecDepth 100000
namespace DL
open PySem L2
variable [TBL]
section
variable {X : Cx}
mutual
def noBox : PyData → Bool
  | .list _ => false
  | .dict _ => false
  | .tuple ds => noBoxL ds
  | _ => true
def noBoxL : List PyData → Bool
  | [] => true
  | d :: ds => noBox d && noBoxL ds
end
section
variable {K : PySem.W.Frag} {pp : PP} {G : Hp} {p : Addr} {o : HO}
theorem sqt_out {od : Obj} {a : Addr} {xs : List V} (hp : G p = some (viewO od o)) (ho : OwnB o = true) (h : SqF K G a xs) : SqF K (fun b => if b = p then none else G b) a xs := by
  rcases h with ⟨u, h, hd⟩ | h
  · refine .inl ⟨u, ?_, hd⟩
    have hne : a ≠ p := fun z => by
      subst z
      rw [hp] at h
      cases o with
      | lst ws => exact absurd (Option.some.inj h) (by unfold viewO; simp)
      | dK ws => exact absurd (Option.some.inj h) (by unfold viewO; simp)
      | ins _ _ _ => exact absurd (Option.some.inj h) (by unfold viewO; simp)
      | _ => cases ho
    show (if a = p then none else G a) = _
    rw [if_neg hne]
    exact h
  · exact .inr h
mutual
theorem rv_out {od : Obj} (hp : G p = some (viewO od o)) (ho : OwnB o = true) : ∀ (d : PyData) (v : V), noBox d = true → Rv K pp G v d → Rv K pp (fun b => if b = p then none else G b) v d
  | .none, _, _, h => by cases h; exact .non
  | .bool b, _, _, h => by cases h; exact .bl b
  | .int i, _, _, h => by cases h; exact .int i
  | .str x, _, _, h => by cases h; exact .str x
  | .list ds, _, f, h => by simp [noBox] at f
  | .dict es, _, f, h => by simp [noBox] at f
  | .tuple ds, _, f, h => by
    cases h with
    | tup a b => exact .tup (sqt_out hp ho a) (rvl_out hp ho ds _ (by simpa only [noBox] using f) b)
theorem rvl_out {od : Obj} (hp : G p = some (viewO od o)) (ho : OwnB o = true) : ∀ (ds : List PyData) (vs : List V), noBoxL ds = true → RvL K pp G vs ds → RvL K pp (fun b => if b = p then none else G b) vs ds
  | [], _, _, h => by cases h; exact .nil
  | d :: ds, _, f, h => by
    have f' : noBox d = true ∧ noBoxL ds = true := by simpa only [noBoxL, Bool.and_eq_true] using f
    cases h with
    | cons a b => exact .cons (rv_out hp ho d _ f'.1 a) (rvl_out hp ho ds _ f'.2 b)
end
end
def eFrz (i : Nat) (g : EG) : EG := fun S ps => bindP (g (frz i S) ps) fun d p => if noBox d then some (d, p) else none
theorem pd_frz {i : Nat} {e : Expr} {g : EG} (h : PD X e g) : PD X e (eFrz i g) := ⟨fun pins st σ H Q J ⟨pp, ps, G, S, d, ps', c, s, e, k⟩ => by
  obtain ⟨d', p1, e1, e⟩ := bindP_inv e
  obtain ⟨hn, e⟩ := ite_inv e
  cases e
  unfold frz at e1
  split at e1
  · next d0 eo =>
    obtain ⟨p, ob, hσ, hp, hGp, np, rv⟩ := s.own eo
    obtain ⟨od, J2⟩ := lock_own J hp rv.ob
    have nf := nofrz_own J hp rv.ob
    obtain ⟨c1, s1⟩ := frz_sl od c s eo hσ hp hGp np rv
    refine thn (h.run pins st σ _ (fun v H' => H' p = some (viewO od ob) ∧ Q v (upd H' p ob)) J2 ⟨pp, ps, _, _, d, ps', c1, s1, e1, fun v G' H' g' r' => ?_⟩) fun u st' ⟨v, H', J', r, hv, q⟩ => ⟨v, _, unlock_own J' hv rv.ob nf, r, q⟩
    obtain ⟨h1, g2⟩ := go_out hGp hp rv.ob np g'
    exact ⟨h1, k v _ _ g2 (rv_out (g'.gg p _ upd_same) rv.ob _ _ hn r')⟩
  · exact h.run pins st σ H Q J ⟨pp, ps, G, S, d, ps', c, s, e1, k⟩⟩
def keyOf : PyData → Option Key
  | .int i => some (.inl i)
  | .str x => some (.inr x)
  | _ => none
theorem keyOf_keyD (k : Key) : keyOf (keyD k) = some k := by cases k <;> rfl
def getE (es : List (PyData × PyData)) (k : Key) : Option PyData := (es.find? fun e => decide (keyOf e.1 = some k)).map (·.2)
def putE (es : List (PyData × PyData)) (k : Key) (d : PyData) : List (PyData × PyData) := if (getE es k).isSome then es.map (fun e => if keyOf e.1 = some k then (e.1, d) else e) else es ++ [(keyD k, d)]
section
variable {K : PySem.W.Frag} {pp : PP} {G : Hp}
theorem RvK.get : ∀ {kvs : List (Key × V)} {es : List (PyData × PyData)} (k : Key), RvK K pp G kvs es → (valV kvs k = none ∧ getE es k = none) ∨ ∃ v d, valV kvs k = some v ∧ getE es k = some d ∧ Rv K pp G v d
  | _, _, k, .nil => .inl ⟨rfl, rfl⟩
  | _, _, k, .cons (k := k') (v := v) (kvs := kvs) (d := d) (es := es) r t => by
    by_cases h : k' = k
    · refine .inr ⟨v, d, valV_pos (p := (k', v)) h, ?_, r⟩
      unfold getE
      rw [List.find?_cons_of_pos (by simp [keyOf_keyD, h])]
      rfl
    · have e1 : valV ((k', v) :: kvs) k = valV kvs k := valV_neg (p := (k', v)) h
      have e2 : getE ((keyD k', d) :: es) k = getE es k := by
        unfold getE
        rw [List.find?_cons_of_neg (by simp [keyOf_keyD, h])]
      rw [e1, e2]
      exact RvK.get k t
theorem RvK.length : ∀ {kvs : List (Key × V)} {es : List (PyData × PyData)}, RvK K pp G kvs es → kvs.length = es.length
  | _, _, .nil => rfl
  | _, _, .cons _ t => congrArg (· + 1) (RvK.length t)
theorem RvK.app : ∀ {kvs ls : List (Key × V)} {es fs : List (PyData × PyData)}, RvK K pp G kvs es → RvK K pp G ls fs → RvK K pp G (kvs ++ ls) (es ++ fs)
  | _, _, _, _, .nil, s => s
  | _, _, _, _, .cons r t, s => .cons r (RvK.app t s)
theorem RvK.over {k : Key} {v : V} {d : PyData} (r : Rv K pp G v d) : ∀ {kvs : List (Key × V)} {es : List (PyData × PyData)}, RvK K pp G kvs es → RvK K pp G (kvs.map fun kv => if kv.1 = k then (kv.1, v) else kv) (es.map fun e => if keyOf e.1 = some k then (e.1, d) else e)
  | _, _, .nil => .nil
  | _, _, .cons (k := k') (v := v') (d := d') r' t => by
    rw [List.map_cons, List.map_cons]
    by_cases h : k' = k
    · rw [if_pos h, if_pos (by rw [keyOf_keyD, h])]
      exact .cons r (RvK.over r t)
    · rw [if_neg h, if_neg (by rw [keyOf_keyD]; simpa using h)]
      exact .cons r' (RvK.over r t)
theorem RvK.put {kvs : List (Key × V)} {es : List (PyData × PyData)} {k : Key} {v : V} {d : PyData} (h : RvK K pp G kvs es) (r : Rv K pp G v d) : RvK K pp G (putK kvs k v) (putE es k d) := by
  unfold putK putE
  rw [valV_any]
  rcases h.get k with ⟨e1, e2⟩ | ⟨v', d', e1, e2, _⟩
  · rw [e1, e2]
    exact h.app (.cons r .nil)
  · rw [e1, e2]
    exact RvK.over r h
theorem rv_dct {v : V} {es : List (PyData × PyData)} (h : Rv K pp G v (.dict es)) (hn : notPot es = true) : ∃ a kvs, v = .ref a ∧ DkF G a kvs ∧ RvK K pp G kvs es := by
  cases h with
  | pot q => cases hn
  | lef q => cases hn
  | slf q => cases hn
  | obj _ _ => cases hn
  | lam _ _ _ => cases hn
  | clo _ _ _ _ _ _ => cases hn
  | exv _ _ => cases hn
  | dkx h1 h2 h3 =>
    exfalso
    cases h3 with
    | nil => exact (mxOk_inv h2.ok).1 rfl
    | cons _ _ _ =>
      obtain ⟨l, rfl⟩ := mxOk_head h2.ok
      cases hn
  | pr _ _ _ => cases hn
  | dct a b => exact ⟨_, _, rfl, a, b⟩
theorem rv_key {v : V} {d : PyData} {k : Key} (h : Rv K pp G v d) (e : keyOf d = some k) : v = kV k := by
  cases h <;> cases e <;> rfl
end
def dgD : PyData → PyData → Option PyData
  | .dict es, y => if notPot es then match keyOf y with
    | some k => getE es k
    | none => none else none
  | _, _ => none
theorem dgD_inv {x y d : PyData} (h : dgD x y = some d) : ∃ es k, x = .dict es ∧ notPot es = true ∧ keyOf y = some k ∧ getE es k = some d := by
  unfold dgD at h
  split at h
  · split at h
    · next hn =>
      split at h
      · next k hk => exact ⟨_, k, rfl, hn, hk, h⟩
      · cases h
    · cases h
  · cases h
theorem pd_dget {o i : Expr} {go gi : EG} {pos : Pos} (hu : X.A.units + 1 < cLine) (ho : PD X o go) (hi : PD X i gi) (hs : NoSl i) : PD X (.Subscript o i pos) (eOp dgD go gi) := pe_imp (pe_dget hu ho hi hs) fun σ H Q ⟨pp, ps, G, S, d, ps', c, s, e, k⟩ => by
  obtain ⟨x, p1, e1, e⟩ := bindP_inv e
  obtain ⟨y, p2, e2, e⟩ := bindP_inv e
  obtain ⟨d', e3, e⟩ := map_inv e
  cases e
  obtain ⟨es, ky, rfl, hn, hk, hg⟩ := dgD_inv e3
  refine ⟨pp, ps, G, S, _, p1, c, s, e1, fun v G1 H1 g1 r1 => ⟨pp, p1, G1, S, _, _, g1.cf, s.go g1, e2, fun w G2 H2 g2 r2 => ?_⟩⟩
  obtain ⟨a, kvs, rfl, hr, hkv⟩ := rv_dct r1 hn
  have hkv2 := RvK.mono g2.gg _ _ hkv
  rcases hkv2.get ky with ⟨_, e4⟩ | ⟨v', d', e4, e5, r5⟩
  · rw [hg] at e4
    cases e4
  · rw [hg] at e5
    cases e5
    exact ⟨a, v', rfl, .inl ⟨kvs, ky, same_k g2.cf.ex (same_k g2.gg hr.rd), rv_key r2 hk, e4.symm⟩, k _ G2 H2 (g1.trans g2) r5⟩
def eGet2 (gd gk gx : EG) : EG := fun S ps => bindP (gd S ps) fun x p => match x with
  | .dict es => if notPot es then bindP (gk S p) fun y p1 => match keyOf y with
    | some k => bindP (gx S p1) fun z p2 => some ((getE es k).getD z, p2)
    | none => none else none
  | _ => none
theorem pd_dget2 {o e f : Expr} {gd gk gx : EG} {apos cpos : Pos} (hu : X.A.units + 1 < cLine) (ho : PD X o gd) (he : PD X e gk) (hf : PD X f gx)
    (hbase : attributeBase o "get" X.env (eval o X.env) = eval o X.env := by rfl)
    (hfew : ((backTo cpos (starEach [e, f] X.env)).all (fun x => !x.1) && (backToKw cpos (keywordEach [] X.env)).all (fun x => x.1.isSome) && decide (([e, f] : List Expr).length + ([] : List Keyword).length + (if ([] : List Keyword).isEmpty then 0 else 1) < 30)) = true := by rfl)
    (hline : (apos.endLine == cpos.line) = true := by rfl) (htr : backTo cpos (starEach [e, f] X.env) = [(false, eval e X.env), (false, eval f X.env)] := by rfl) :
    PD X (.Call (.Attribute o "get" apos) [e, f] [] cpos) (eGet2 gd gk gx) := pe_imp (pe_dget2 hu ho he hf ⟨hbase, hfew, hline, htr⟩) fun σ H Q ⟨pp, ps, G, S, d, ps', c, s, e, k⟩ => by
  obtain ⟨x, p1, e1, e⟩ := bindP_inv e
  split at e
  · next es =>
    split at e
    · next hn =>
      obtain ⟨y, p2, e2, e⟩ := bindP_inv e
      split at e
      · next ky hk =>
        obtain ⟨z, p3, e3, e⟩ := bindP_inv e
        cases e
        refine ⟨pp, ps, G, S, _, p1, c, s, e1, fun v G1 H1 g1 r1 => ?_⟩
        obtain ⟨a, kvs, rfl, hr, hkv⟩ := rv_dct r1 hn
        refine ⟨a, rfl, .inl ⟨kvs, same_k g1.cf.ex hr.rd⟩, pp, p1, G1, S, _, _, g1.cf, s.go g1, e2, fun w G2 H2 g2 r2 => ⟨pp, p2, G2, S, _, _, g2.cf, (s.go g1).go g2, e3, fun u G3 H3 g3 r3 => ?_⟩⟩
        have hkv3 := RvK.mono (g2.gg.trans g3.gg) _ _ hkv
        refine ⟨valV kvs ky, .inl ⟨kvs, ky, same_k g3.cf.ex (same_k (g2.gg.trans g3.gg) hr.rd), rv_key r2 hk, rfl⟩, ?_⟩
        rcases hkv3.get ky with ⟨e4, e5⟩ | ⟨v', d', e4, e5, r5⟩
        · rw [e4]
          rw [e5] at k
          exact k _ G3 H3 ((g1.trans g2).trans g3) r3
        · rw [e4]
          rw [e5] at k
          exact k _ G3 H3 ((g1.trans g2).trans g3) r5
      · cases e
    · cases e
  · cases e
end
end DL
set_option Elab.async false
set_option linter.all false
set_option maxRecDepth 100000
namespace DL
open PySem L2
variable [TBL]
section
variable {K : PySem.W.Frag} {pp : PP} {ps ps1 : Pt} {G H G1 H1 : Hp} {S : Sd} {σ : L2.St}
theorem own_upd {i : Nat} {p : Addr} {ob ob' : HO} {d0 d1 : PyData} (s : Sl K pp G H S σ) (g1 : Go pp ps1 [] G H G1 H1) (eo : S[i]? = some (.own d0)) (hσ : σ[i]? = some (some (.ref p))) (hp : H p = some ob) (hob : OwnB ob = true) (r : OwnO K pp G1 ob' d1) :
    GoS pp ps1 S σ G H (S.set i (.own d1)) σ G1 (upd H1 p ob') ∧ Sl K pp G1 (upd H1 p ob') (S.set i (.own d1)) σ := by
  obtain ⟨p', ob1, hσ', hp', hGp, np, _⟩ := s.own eo
  rw [hσ] at hσ'
  cases hσ'
  have hp1 : H1 p = some ob := g1.keep p _ hp np (by simp) (ownB_nt hob)
  have hG1 : G1 p = none := g1.gnone hGp hp
  have own_p : Owned S σ p := ⟨i, _, eo, hσ⟩
  have sl1 : Sl K pp G1 (upd H1 p ob') (S.set i (.own d1)) (σ.set i (some (.ref p))) := by
    refine (s.go g1).setOwn (Same.refl G1) (fun j es b hj e1 e2 => ?_) upd_same hG1 np r
    have hne : b ≠ p := fun z => by
      subst z
      exact hj (s.apart j i es _ b e1 eo e2 hσ)
    obtain ⟨b', ws, h1, h2, h3, h4, h5⟩ := (s.go g1).own e1
    rw [e2] at h1
    cases h1
    exact ⟨hne, fun o ho => by rw [upd_ne hne]; exact ho, h3⟩
  rw [set_self hσ] at sl1
  refine ⟨⟨g1.gg, ⟨fun b o hb => ?_, fun i a ha => ⟨(g1.cf.pot i a ha).1, ?_⟩, g1.cf.pnd, tab_upd hp1 (ownB_pl hob) g1.cf.tb, g1.cf.vt, ot_upd (ownB_nt r.ob) g1.cf.ot⟩, fun b o hb n => .inl (g1.fresh b o hb n), fun b o hb n no nt => ?_, fun b hb => ?_, fun b hb => ?_⟩, sl1⟩
  · rw [upd_ne (ne_of_none hb hG1)]
    exact g1.cf.ex b o hb
  · have hne : a ≠ p := fun z => np _ (z ▸ ha)
    rw [upd_ne hne]
    exact (g1.cf.pot _ a ha).2
  · have hne : b ≠ p := fun z => no (z ▸ own_p)
    rw [upd_ne hne]
    exact g1.keep b o hb n (by simp) nt
  · obtain ⟨j, es, h1, h2⟩ := hb
    by_cases hj : i = j
    · subst hj
      rw [hσ] at h2
      cases h2
      exact .inr own_p
    · rw [List.getElem?_set_ne hj] at h1
      exact .inr ⟨j, es, h1, h2⟩
  · by_cases hbp : b = p
    · subst hbp
      rw [upd_same] at hb
      cases hb
    · rw [upd_ne hbp] at hb
      exact g1.none_of hb
theorem own_new {i : Nat} {p : Addr} {ob : HO} {d : PyData} (c : Cf pp ps G H) (s : Sl K pp G H S σ) (g1 : Go pp ps1 [] G H G1 H1) (h0 : H p = none) (hG : G1 p = none) (hp : H1 p = some ob) (r : OwnO K pp G1 ob d) :
    GoS pp ps1 S σ G H (S.set i (.own d)) (σ.set i (some (.ref p))) G1 H1 ∧ Sl K pp G1 H1 (S.set i (.own d)) (σ.set i (some (.ref p))) := by
  refine ⟨⟨g1.gg, g1.cf, fun b o h n => .inl (g1.fresh b o h n), fun b o h n _ nt => g1.keep b o h n (by simp) nt, fun b hb => ?_, fun b hb => g1.none_of hb⟩, ?_⟩
  · obtain ⟨j, ds, e1, e2⟩ := hb
    by_cases hj : i = j
    · subst hj
      rw [List.getElem?_set] at e2
      split at e2
      · split at e2
        · cases e2
          exact .inl h0
        · cases e2
      · next n => exact absurd rfl n
    · rw [List.getElem?_set_ne hj] at e1 e2
      exact .inr ⟨j, ds, e1, e2⟩
  · refine (s.go g1).setOwn (Same.refl G1) (fun j es b hj e1 e2 => ?_) hp hG (c.pne h0) r
    obtain ⟨b', ws, h1, h2, h3, h4, h5⟩ := (s.go g1).own e1
    obtain ⟨b2, ws2, k1, k2, _⟩ := s.own e1
    rw [e2] at h1 k1
    cases h1
    cases k1
    exact ⟨ne_of_none k2 h0, fun o ho => ho, h3⟩
end
section
variable {X : Cx}
def sNewD (i : Nat) : SG := fun S ps => some (.nx (S.set i (.own (.dict []))), ps)
theorem pds_newD {i : Nat} {x : Str} {pos pos' pos2 : Pos} (hN : X.N.Nodup) (hi : X.N[i]? = some x) (hx : Loc X.env.scope x)
    (hf : X.fn x = true ∨ X.env.scope.names.lookup x = some .local := by first | exact .inl rfl | exact .inr rfl | assumption)
    (hs : swapsWithSole [.Name x pos'] (.Dict [] [] pos2) pos.line X.env = pure false := by rfl) (hw : swappedStores [.Name x pos'] (.Dict [] [] pos2) X.env = pure none := by rfl) (h1 : (assignEach [.Name x pos'] X.env).map (·.2) = [assign (.Name x pos') X.env] := by rfl) :
    PDS X (.Assign [.Name x pos'] (.Dict [] [] pos2) pos) (sNewD i) :=
  ps_imp (ps_asg pe_dnewK (pg_name hN hi hx hf) hs hw h1) fun D σ H ⟨pp, ps, G, S, r, ps', c, s, e, k⟩ => by
    cases e
    intro p hp
    have gh : Go pp ps [] G H G (upd H p (.dK [])) := Go.hide c hp
    obtain ⟨a, b⟩ := own_new (i := i) (d := .dict []) c s gh hp (c.ex.free hp) upd_same (show OwnO X.K pp G (.dK []) (.dict []) from RvK.nil)
    exact k _ G _ a b
def sPutD (i : Nat) (gk gv : EG) : SG := fun S ps => bindP (gv S ps) fun v p => match S[i]? with
  | some (.own (.dict es)) => bindP (gk S p) fun y p1 => match keyOf y with
    | some k => if notPot es && decide (es.length < 16777216) then some (.nx (S.set i (.own (.dict (putE es k v)))), p1) else none
    | none => none
  | _ => none
theorem pds_putD {i : Nat} {x : Str} {ek ev : Expr} {gk gv : EG} {pn pos pos' : Pos} (hu : X.A.units + 1 < cLine) (hN : X.N[i]? = some x) (hv : Vis X.env.scope x) (hk : PD X ek gk) (h : PD X ev gv) (hs : swapsWith ev (some (.Subscript (.Name x pn) ek pos')) pos.line X.env = pure false := by rfl)
    (hd : (x == ("__debug__" : Str)) = false := by decide) (hcd : (x == ("__classdict__" : Str)) = false := by decide) : PDS X (.Assign [.Subscript (.Name x pn) ek pos'] ev pos) (sPutD i gk gv) :=
  ps_imp (ps_dput hu (pe_var hN hv hd hcd) hk h hs) fun D σ H ⟨pp, ps, G, S, r, ps', c, s, e, k⟩ => by
    obtain ⟨d, p1, e1, e⟩ := bindP_inv e
    split at e
    · next es eo =>
      obtain ⟨y, p2, e2, e⟩ := bindP_inv e
      split at e
      · next ky hky =>
        obtain ⟨hlt, e⟩ := ite_inv e
        cases e
        rw [Bool.and_eq_true] at hlt
        obtain ⟨p, ob, hσ, hp, hGp, np, rvo⟩ := s.own eo
        obtain ⟨kvs, rfl, rv⟩ := rvo.dct hlt.1
        refine ⟨pp, ps, G, S, d, p1, c, s, e1, fun v G1 H1 g1 r1 => ⟨.ref p, hσ, pp, p1, G1, S, y, _, g1.cf, s.go g1, e2, fun w G2 H2 g2 r2 => ?_⟩⟩
        have g12 := g1.trans g2
        have rv2 := RvK.mono g12.gg _ _ rv
        have hp2 : H2 p = some (.dK kvs) := g12.keep p _ hp np (by simp) nt_dK
        have hl : kvs.length < sizeLine := by
          rw [RvK.length rv, sizeLine_eq]
          exact of_decide_eq_true hlt.2
        obtain ⟨a, b⟩ := own_upd (d1 := .dict (putE es ky d)) (ob' := .dK (putK kvs ky v)) s g12 eo hσ hp rfl (show OwnO X.K pp G2 (.dK (putK kvs ky v)) (.dict (putE es ky d)) from RvK.put rv2 (Rv.mono g2.gg _ _ r1))
        exact ⟨p, _, rfl, .inl ⟨kvs, ky, hp2, rv_key r2 hky, hl, rfl⟩, k σ G2 _ a b⟩
      · cases e
    · cases e
theorem RvL.set {K : PySem.W.Frag} {pp : PP} {G : Hp} {v : V} {d : PyData} (r : Rv K pp G v d) : ∀ {vs : List V} {ds : List PyData} (j : Nat), RvL K pp G vs ds → RvL K pp G (vs.set j v) (ds.set j d)
  | _, _, _, .nil => .nil
  | _, _, 0, .cons _ t => .cons r t
  | _, _, j + 1, .cons a t => .cons a (RvL.set r j t)
end
end DL
set_option Elab.async false
set_option linter.all false
set_option maxRecDepth 100000
set_option maxHeartbeats 1000000
namespace DL
open PySem PySem.Spec PyProof.Rows L2
variable [TBL]
def pairsOf : List PyData → Option (List (Key × PyData))
  | [] => some []
  | .tuple [k, v] :: r => match keyOf k, pairsOf r with
    | some kk, some ps => some ((kk, v) :: ps)
    | _, _ => none
  | _ => none
def mergeE (es : List (PyData × PyData)) (ps : List (Key × PyData)) : List (PyData × PyData) := ps.foldl (fun acc p => putE acc p.1 p.2) es
section
variable {K : PySem.W.Frag} {pp : PP} {G H : Hp}
theorem pairs_rv : ∀ {ds : List PyData} {vs : List V} {ps : List (Key × PyData)}, pairsOf ds = some ps → RvL K pp G vs ds → ∃ (as : List Addr) (kvs : List (Key × V)), vs = as.map V.ref ∧ Paired (fun a (kv : Key × V) => SqF K G a [kV kv.1, kv.2]) as kvs ∧ Paired (fun (kv : Key × V) (p : Key × PyData) => kv.1 = p.1 ∧ Rv K pp G kv.2 p.2) kvs ps
  | [], vs, ps, e, r => by
    cases e
    cases r
    exact ⟨[], [], rfl, .nil, .nil⟩
  | d :: ds, vs, ps, e, r => by
    unfold pairsOf at e
    split at e
    · next h => cases h
    · next k v rest h =>
      cases h
      split at e
      · next kk qs hk hq =>
        cases e
        cases r with
        | cons r1 r2 =>
          obtain ⟨as, kvs, rfl, h1, h2⟩ := pairs_rv hq r2
          obtain ⟨a, xs, rfl, hx, ha⟩ := rv_tup r1
          obtain ⟨x, y, rfl, rx, ry⟩ := rvl_two ha
          have := rv_key rx hk
          subst this
          exact ⟨a :: as, (kk, y) :: kvs, rfl, .cons hx h1, .cons ⟨rfl, ry⟩ h2⟩
      · cases e
    · cases e
theorem merge_rv : ∀ {kvs : List (Key × V)} {ps : List (Key × PyData)} {ls : List (Key × V)} {es : List (PyData × PyData)}, Paired (fun (kv : Key × V) (p : Key × PyData) => kv.1 = p.1 ∧ Rv K pp G kv.2 p.2) kvs ps → RvK K pp G ls es → RvK K pp G (mergeK ls kvs) (mergeE es ps)
  | _, _, _, _, .nil, h => h
  | _, _, ls, es, .cons (a := kv) (b := p) r t, h => by
    obtain ⟨e, rv⟩ := r
    have h2 : RvK K pp G (putK ls kv.1 kv.2) (putE es p.1 p.2) := by
      rw [e]
      exact h.put rv
    show RvK K pp G (mergeK (putK ls kv.1 kv.2) _) (mergeE (putE es p.1 p.2) _)
    exact merge_rv t h2
theorem paired_up {α β : Type} {F F' : α → β → Prop} (h : ∀ a b, F a b → F' a b) : ∀ {xs : List α} {ys : List β}, Paired F xs ys → Paired F' xs ys
  | _, _, .nil => .nil
  | _, _, .cons r t => .cons (h _ _ r) (paired_up h t)
end
section
variable {X : Cx}
theorem pairs_at {pins : List (Addr × Obj)} {σ : L2.St} {H : Hp} {st : Shared} (J : Inv X pins σ H st) : ∀ {as : List Addr} {kvs : List (Key × V)}, Paired (fun a (kv : Key × V) => SqT X.K H a [kV kv.1, kv.2]) as kvs →
    ∃ (pv : List (Value × Value)) (prs : List (Key × Value)), KV kvs prs ∧ pv.length = as.length ∧ prs.length = as.length ∧ ∀ (j : Nat) (u x : Value), pv[j]? = some (u, x) → ∃ a k, as[j]? = some a ∧ prs[j]? = some (k, x) ∧ IsTup st.heap a #[u, x] ∧ keyIs k u = true
  | _, _, .nil => ⟨[], [], .nil, rfl, rfl, fun j u x e => by simp at e⟩
  | _, _, .cons (a := a) (b := kv) h t => by
    obtain ⟨pv, prs, r, l1, l2, hp⟩ := pairs_at J t
    obtain ⟨jt, rv, ht, _⟩ := J.tuple h
    obtain ⟨u0, y, ei, ru, ry⟩ := vals2 rv
    subst ei
    have hk : keyIs kv.1 u0 = true := by
      obtain ⟨k, v⟩ := kv
      cases k with
      | inl n => obtain ⟨tk, rfl⟩ := ru; simp [keyIs, Value.isInt]
      | inr z => obtain ⟨tk, rfl⟩ := ru; simp [keyIs, Value.isStrOf]
    refine ⟨(u0, y) :: pv, (kv.1, y) :: prs, .cons ⟨rfl, ry⟩ r, by simp [l1], by simp [l2], fun j u x e => ?_⟩
    cases j with
    | zero =>
      have e' : (u0, y) = (u, x) := by simpa using e
      cases e'
      exact ⟨a, kv.1, by simp, by simp, ht, hk⟩
    | succ j =>
      obtain ⟨b, k, e1, e2, e3, e4⟩ := hp j u x (by simpa using e)
      exact ⟨b, k, by simpa using e1, by simpa using e2, e3, e4⟩
theorem call_dictT (hcalm : X.calm = true) : CallR X (.type "dict") (fun xs H Q => ∃ (a : Addr) (ps : List Addr) (kvs : List (Key × V)), xs = [.ref a] ∧ SqF X.K H a (ps.map V.ref) ∧ Paired (fun p (kv : Key × V) => SqT X.K H p [kV kv.1, kv.2]) ps kvs ∧
    ∀ p, H p = none → Q (.ref p) (upd H p (.dK (mergeK [] kvs)))) := by
  intro pins st σ H xs us Q J rr ⟨a, ps, kvs, hxs, hq, hp, q⟩
  subst hxs
  obtain ⟨u, rfl, ru⟩ := vals1 rr
  cases ru
  obtain ⟨pv, prs, rel, l1, l2, hpr⟩ := pairs_at J hp
  -- the tuple as it lies
  have pl : ∃ jt : List Value, Vals (ps.map V.ref) jt ∧ PlainSeq "tuple" st.heap a jt.toArray ∧ (ps.map V.ref).length ≤ sizeLine := by
    rcases hq with ⟨o, ho, hd⟩ | ⟨o, its, n, h1, h2, h3, h4, h5, h6⟩
    · obtain ⟨e1, hz, jt, rj, o2, e2, hc, n, hdat⟩ := J.hok a _ ho
      rw [e1] at e2
      cases e2
      exact ⟨jt, rj, ⟨o, n, e1, hc, hd, hdat⟩, hz⟩
    · refine ⟨its.toList, h6, ⟨o, n, J.kIn a o h1, h2, h3, by rw [Array.toArray_toList]; exact h4⟩, ?_⟩
      rw [h6.length]
      simpa using h5
  obtain ⟨jt, rj, hpl, hz⟩ := pl
  have ei := refs_at rj
  subst ei
  rw [List.length_map] at hz
  have hit : PairItems st.heap (ps.map Value.ref).toArray (fun j => ps[j]?.getD 0) pv := by
    refine ⟨by simp [l1], fun j k v e => ?_⟩
    obtain ⟨b, kk, e1, e2, e3, e4⟩ := hpr j k v e
    refine ⟨by simp [e1], .inl ?_⟩
    show st.heap.IsTuple (ps[j]?.getD 0) #[k, v]
    rw [e1]
    exact e3
  have hv : PairsHave (mixKind X.prog X.w) pv.length (PairRel pv) prs := by
    refine ⟨by rw [l1, l2], fun i key v e => ?_⟩
    obtain ⟨b, kk, e1, e2, e3, e4⟩ := hpr i key v e
    exact ⟨kk, e2, e4⟩
  refine PySem.call_dict_pairs (PairArg.tuple a _ _ pv) (J.ok.hd hcalm) ⟨hpl, hit⟩ hv (by rw [l1]; exact hz) fun h' tk hd' kp => ?_
  have hm : (st.heap.objs.size == sysModules) = false := beq_eq_false_iff_ne.mpr (Nat.ne_of_gt J.big)
  have hlen : (mergeK [] kvs).length ≤ sizeLine := by
    refine Nat.le_trans (length_mergeK kvs []) ?_
    rw [List.length_nil, Nat.zero_add, rel.length, l2]
    exact hz
  have ok : ObjOk X.prog X.w (upd H st.heap.objs.size (.dK (mergeK [] kvs))) h' st.heap.objs.size (.dK (mergeK [] kvs)) := ⟨hlen, hm, merged [] prs, KV.merge rel .nil, hd'⟩
  exact ⟨.ref st.heap.objs.size, _, J.laid (t' := tk) (fun b o e => kp b o (by simp) e) (Nat.le_refl _) ok, rfl, q _ (J.hok.fresh (Nat.le_refl _))⟩
def dictD : PyData → Option PyData
  | .list ds => (pairsOf ds).map fun ps => .dict (mergeE [] ps)
  | .tuple ds => (pairsOf ds).map fun ps => .dict (mergeE [] ps)
  | .dict es => if notPot es then some (.dict es) else none
  | _ => none
def rNewD (K : PySem.W.Frag) (o : PyData → Option PyData) : List V → Hp → VK → Prop := fun vs H Q => ∃ (pp : PP) (ps : Pt) (G : Hp) (x : PyData) (es : List (PyData × PyData)), Cf pp ps G H ∧ RvL K pp G vs [x] ∧ o x = some (.dict es) ∧
  ∀ p kvs, H p = none → RvK K pp G kvs es → Q (.ref p) (upd H p (.dK kvs))
theorem cr_dict (hcalm : X.calm = true) : CallR X (.type "dict") (rNewD X.K dictD) := by
  intro pins st σ H vs us Q J rs ⟨pp, ps, G, x, es, c, r, e, k⟩
  obtain ⟨v, rfl, r1⟩ := rvl_one r
  unfold dictD at e
  split at e
  · next ds =>
    obtain ⟨qs, e1, e2⟩ := map_inv e
    cases e2
    obtain ⟨a, xs, rfl, hx, ha⟩ := rv_lst r1
    obtain ⟨as, kvs, rfl, h1, h2⟩ := pairs_rv e1 ha
    exact call_dictP hcalm pins st σ H _ us Q J rs ⟨a, as, kvs, rfl, cf_l c hx, paired_up (fun _ _ z => cf_t c z) h1, fun p hp => k p _ hp (merge_rv h2 .nil)⟩
  · next ds =>
    obtain ⟨qs, e1, e2⟩ := map_inv e
    cases e2
    obtain ⟨a, xs, rfl, hx, ha⟩ := rv_tup r1
    obtain ⟨as, kvs, rfl, h1, h2⟩ := pairs_rv e1 ha
    exact call_dictT hcalm pins st σ H _ us Q J rs ⟨a, as, kvs, rfl, same_f c.ex hx, paired_up (fun _ _ z => cf_t c z) h1, fun p hp => k p _ hp (merge_rv h2 .nil)⟩
  · next es' =>
    obtain ⟨hn, e2⟩ := ite_inv e
    cases e2
    obtain ⟨a, kvs, rfl, hr, hkv⟩ := rv_dct r1 hn
    exact call_dictD pins st σ H _ us Q J rs ⟨a, kvs, rfl, same_k c.ex hr.rd, fun p hp => k p _ hp hkv⟩
  · cases e
theorem cd_dict (hcalm : X.calm = true) : CallR X (.type "dict") (rDL X.K (one dictD)) := by
  intro pins st σ H vs us Q J rs ⟨pp, ps, G, xs, d, c, r, e, k⟩
  obtain ⟨x, rfl, e1⟩ := one_inv e
  have hd : ∃ es, d = .dict es := by
    unfold dictD at e1
    split at e1
    · obtain ⟨_, _, rfl⟩ := map_inv e1
      exact ⟨_, rfl⟩
    · obtain ⟨_, _, rfl⟩ := map_inv e1
      exact ⟨_, rfl⟩
    · obtain ⟨_, rfl⟩ := ite_inv e1
      exact ⟨_, rfl⟩
    · cases e1
  obtain ⟨es, rfl⟩ := hd
  refine callR_lock (cr_dict hcalm) pins st σ H vs us Q J rs ⟨pp, ps, G, x, es, c, r, e1, fun p kvs hp hkv => ⟨p, _, rfl, upd_same, trivial, fun od => ?_⟩⟩
  rw [upd_upd]
  have gl : Go pp ps [] G H (upd G p (.frz od (.dK kvs))) (upd H p (.frz od (.dK kvs))) := Go.lay c hp nt_frz
  exact k _ _ _ gl (.dct ⟨od, upd_same⟩ (RvK.mono gl.gg _ _ hkv))
def sOwnD (i : Nat) (g : EG) : SG := fun S ps => bindP (g S ps) fun x p => match dictD x with
  | some (.dict es) => some (.nx (S.set i (.own (.dict es))), p)
  | _ => none
theorem pds_ownD {i : Nat} {x : Str} {e : Expr} {g : EG} {pn pos pos' cpos : Pos} (hcalm : X.calm = true) (hN : X.N.Nodup) (hi : X.N[i]? = some x) (hx : Loc X.env.scope x) (hg : Gl X "dict") (hm : X.mg "dict" = none) (h : PD X e g)
    (hf : X.fn x = true ∨ X.env.scope.names.lookup x = some .local := by first | exact .inl rfl | exact .inr rfl | assumption)
    (hst : starEach [e] X.env = (false, eval e X.env) :: starEach [] X.env := by rfl) (hpl : (backTo cpos (starEach [] X.env)).any (·.1) = false := by rfl)
    (hs : swapsWithSole [.Name x pos'] (.Call (.Name "dict" pn) [e] [] cpos) pos.line X.env = pure false := by rfl) (hw : swappedStores [.Name x pos'] (.Call (.Name "dict" pn) [e] [] cpos) X.env = pure none := by rfl) (h1 : (assignEach [.Name x pos'] X.env).map (·.2) = [assign (.Name x pos') X.env] := by rfl) :
    PDS X (.Assign [.Name x pos'] (.Call (.Name "dict" pn) [e] [] cpos) pos) (sOwnD i g) :=
  ps_imp (ps_asg (pe_callTy (cr_dict hcalm) hg hm (by decide +kernel) (pa_cons h pa_nil hst) (by decide) (by decide) hst hpl) (pg_name hN hi hx hf) hs hw h1) fun D σ H ⟨pp, ps, G, S, r, ps', c, s, e, k⟩ => by
    obtain ⟨x, p1, e1, e⟩ := bindP_inv e
    split at e
    · next es e2 =>
      cases e
      refine ⟨pp, ps, G, S, x, _, c, s, e1, fun v G1 H1 g1 r1 => ⟨pp, _, G1, x, es, g1.cf, .cons r1 .nil, e2, fun p kvs hp hkv => ?_⟩⟩
      have gh : Go pp _ [] G1 H1 G1 (upd H1 p (.dK kvs)) := Go.hide g1.cf hp
      have g12 := g1.trans gh
      obtain ⟨a, b⟩ := own_new (i := i) (d := .dict es) c s g12 (g1.none_of hp) (g1.cf.ex.free hp) upd_same (show OwnO X.K pp G1 (.dK kvs) (.dict es) from hkv)
      exact k _ G1 _ a b
    · cases e
end
end DL
set_option Elab.async false
set_option linter.all false
set_option maxRecDepth 100000
set_option maxHeartbeats 1000000
namespace DL
open PySem L2
variable [TBL]
section
variable {X : Cx}
def TDN (K : PySem.W.Frag) (g : AG) : TE := fun σ H Q => ∃ (pp : PP) (ps : Pt) (G : Hp) (S : Sd) (ds : List PyData) (ps' : Pt), Cf pp ps G H ∧ Sl K pp G H S σ ∧ g S ps = some (ds, ps') ∧
  ∀ p vs G' H', Go pp ps' [] G H G' H' → H p = none → G' p = none → H' p = some (.lst vs) → RvL K pp G' vs ds → Q (.ref p) H'
abbrev PDN (X : Cx) (e : Expr) (g : AG) : Prop := PE X e (TDN X.K g)
def aFit (gs : AG) : AG := fun S ps => bindP (gs S ps) fun ds p => if fitsL ds then some (ds, p) else none
theorem pdn_lst {es : List Expr} {gs : AG} {pos : Pos} (h : PDA X es gs) : PDN X (.List es pos) (aFit gs) := pe_imp (pe_lst h) fun σ H Q ⟨pp, ps, G, S, d, ps', c, s, e, k⟩ => by
  obtain ⟨ds, p1, e1, e⟩ := bindP_inv e
  obtain ⟨hf, e⟩ := ite_inv e
  cases e
  refine ⟨pp, ps, G, S, d, ps', c, s, e1, fun vs G1 H1 g1 r1 => ⟨by rw [r1.length]; exact fits_size hf, fun p hp => ?_⟩⟩
  have gh : Go pp ps' [] G1 H1 G1 (upd H1 p (.lst vs)) := Go.hide g1.cf hp
  exact k p vs G1 _ (g1.trans gh) (g1.none_of hp) (g1.cf.ex.free hp) upd_same r1
def aRep (gs : AG) (gn : EG) : AG := fun S ps => bindP (gs S ps) fun ds p => bindP (gn S p) fun y p1 => match y with
  | .int k => if decide (-(2 ^ 63) ≤ k) && decide (k < 2 ^ 63) && decide (ds.length * k.toNat ≤ 16777216) then some ((List.replicate k.toNat ds).flatten, p1) else none
  | _ => none
theorem pdn_rep {a b : Expr} {gs : AG} {gn : EG} {pos : Pos} (ha : PDN X a gs) (hb : PD X b gn) : PDN X (.BinOp a .Mult b pos) (aRep gs gn) := pe_imp (pe_op op_rep ha hb) fun σ H Q ⟨pp, ps, G, S, d, ps', c, s, e, k⟩ => by
  obtain ⟨ds, p1, e1, e⟩ := bindP_inv e
  obtain ⟨y, p2, e2, e⟩ := bindP_inv e
  split at e
  · next n =>
    obtain ⟨hf, e⟩ := ite_inv e
    cases e
    rw [Bool.and_eq_true, Bool.and_eq_true] at hf
    refine ⟨pp, ps, G, S, ds, p1, c, s, e1, fun p vs G1 H1 g1 h0 hG1 hp1 r1 => ⟨pp, p1, G1, S, _, _, g1.cf, s.go g1, e2, fun w G2 H2 g2 r2 => ?_⟩⟩
    have np : pp.no p := c.pne h0
    have hp2 : H2 p = some (.lst vs) := g2.keep p _ hp1 np (by simp) nt_lst
    refine ⟨p, n, vs, rfl, rv_int r2, hp2, of_decide_eq_true hf.1.1, of_decide_eq_true hf.1.2, by rw [r1.length, sizeLine_eq]; exact of_decide_eq_true hf.2, fun q hq => ?_⟩
    have gh : Go pp _ [] G2 H2 G2 (upd H2 q (.lst (List.replicate n.toNat vs).flatten)) := Go.hide g2.cf hq
    exact k q _ G2 _ ((g1.trans g2).trans gh) ((g1.trans g2).none_of hq) (g2.cf.ex.free hq) upd_same (rvl_rep (RvL.mono g2.gg _ _ r1) n.toNat)
  · cases e
def eNewL (gs : AG) : EG := fun S ps => bindP (gs S ps) fun ds p => some (.list ds, p)
theorem pd_newL {e : Expr} {gs : AG} (h : PDN X e gs) : PD X e (eNewL gs) := pe_imp h fun σ H Q ⟨pp, ps, G, S, d, ps', c, s, e, k⟩ => by
  obtain ⟨ds, p1, e1, e⟩ := bindP_inv e
  cases e
  refine ⟨pp, ps, G, S, ds, _, c, s, e1, fun p vs G1 H1 g1 h0 hG1 hp1 r1 => ?_⟩
  have gs := Go.show nt_lst g1 h0 hG1 (c.pne h0) hp1
  exact k _ _ _ gs (.lst (.inl upd_same) (RvL.mono (same_new hG1) _ _ r1))
def sOwnN (i : Nat) (gs : AG) : SG := fun S ps => bindP (gs S ps) fun ds p => some (.nx (S.set i (.own (.list ds))), p)
theorem pds_ownN {i : Nat} {x : Str} {e : Expr} {gs : AG} {pos' pos : Pos} (hN : X.N.Nodup) (hi : X.N[i]? = some x) (hx : Loc X.env.scope x) (h : PDN X e gs)
    (hf : X.fn x = true ∨ X.env.scope.names.lookup x = some .local := by first | exact .inl rfl | exact .inr rfl | assumption)
    (hs : swapsWithSole [.Name x pos'] e pos.line X.env = pure false := by rfl) (hw : swappedStores [.Name x pos'] e X.env = pure none := by rfl) (h1 : (assignEach [.Name x pos'] X.env).map (·.2) = [assign (.Name x pos') X.env] := by rfl) : PDS X (.Assign [.Name x pos'] e pos) (sOwnN i gs) :=
  ps_imp (ps_asg h (pg_name hN hi hx hf) hs hw h1) fun D σ H ⟨pp, ps, G, S, r, ps', c, s, e, k⟩ => by
    obtain ⟨ds, p1, e1, e⟩ := bindP_inv e
    cases e
    refine ⟨pp, ps, G, S, ds, _, c, s, e1, fun p vs G1 H1 g1 h0 hG1 hp1 r1 => ?_⟩
    obtain ⟨a, b⟩ := own_new (i := i) (d := .list ds) c s g1 h0 hG1 hp1 (show OwnO X.K pp G1 (.lst vs) (.list ds) from r1)
    exact k _ G1 _ a b
def isNon : PyData → Bool
  | .none => true
  | _ => false
def isD (x y : PyData) : Option PyData := match y with
  | .none => some (.bool (isNon x))
  | .bool b => match x with
    | .bool a => some (.bool (decide (a = b)))
    | _ => none
  | _ => none
theorem non_of {K : PySem.W.Frag} {pp : PP} {G : Hp} {v : V} {x : PyData} (r : Rv K pp G v x) : decide (v = .non) = isNon x := by
  cases r <;> rfl
theorem opd_is : OpD X (compareOp .Is) isD := by
  intro pins st σ H x y v u Q J rx ry ⟨pp, ps, G, dx, dy, d, c, r1, r2, e, k⟩
  unfold isD at e
  split at e
  · cases e
    cases r2
    have h := non_of r1
    refine op_isN pins st σ H _ _ v u Q J rx ry ⟨rfl, ?_⟩
    rw [h]
    exact k _ G H (Go.refl c) (.bl _)
  · split at e
    · cases e
      cases r1
      cases r2
      exact op_isBl pins st σ H _ _ v u Q J rx ry ⟨_, _, rfl, rfl, k _ G H (Go.refl c) (.bl _)⟩
    · cases e
  · cases e
def intsL : List PyData → Option (List Int)
  | [] => some []
  | .int i :: r => (intsL r).map (i :: ·)
  | _ => none
theorem ints_rv {K : PySem.W.Frag} {pp : PP} {G : Hp} : ∀ {ds : List PyData} {is : List Int} {vs : List V}, intsL ds = some is → RvL K pp G vs ds → vs = is.map V.int
  | [], is, vs, e, r => by
    cases e
    cases r
    rfl
  | d :: ds, is, vs, e, r => by
    unfold intsL at e
    split at e
    · next h => cases h
    · next i rest h =>
      cases h
      obtain ⟨js, e1, rfl⟩ := map_inv e
      cases r with
      | cons r1 r2 =>
        rw [rv_int r1, ints_rv e1 r2]
        rfl
    · cases e
def sumD : PyData → Option PyData
  | .list ds => (intsL ds).map fun is => .int is.sum
  | _ => none
theorem cd_sum (hc : X.calm = true) : CallR X (.builtin "sum") (rDL X.K (one sumD)) := by
  intro pins st σ H vs us Q J rs ⟨pp, ps, G, xs, d, c, r, e, k⟩
  obtain ⟨x, rfl, e1⟩ := one_inv e
  obtain ⟨v, rfl, r1⟩ := rvl_one r
  unfold sumD at e1
  split at e1
  · next ds =>
    obtain ⟨is, e2, rfl⟩ := map_inv e1
    obtain ⟨a, ws, rfl, hx, ha⟩ := rv_lst r1
    have := ints_rv e2 ha
    subst this
    exact cr_sum hc pins st σ H _ us Q J rs ⟨a, is, rfl, cf_l c hx, k _ G H (Go.refl c) (.int _)⟩
  · cases e1
def strI (x : PyData) : Option PyData := match x with
  | .int i => if decide (i.natAbs.log2 < 1920) then some (.str (toString i)) else none
  | _ => none
theorem cd_str : CallR X (.type "str") (rDL X.K (one strI)) := by
  intro pins st σ H vs us Q J rs ⟨pp, ps, G, xs, d, c, r, e, k⟩
  obtain ⟨x, rfl, e1⟩ := one_inv e
  obtain ⟨v, rfl, r1⟩ := rvl_one r
  unfold strI at e1
  split at e1
  · next i =>
    obtain ⟨h1, rfl⟩ := ite_inv e1
    cases r1
    exact call_str_int pins st σ H _ us Q J rs ⟨i, rfl, of_decide_eq_true h1, k _ G H (Go.refl c) (.str _)⟩
  · cases e1
def intS (x : PyData) : Option PyData := match x with
  | .str a => if decide (a.length ≤ 640) then (PySem.intText? a).map .int else none
  | _ => none
theorem cd_intS : CallR X (.type "int") (rDL X.K (one intS)) := by
  intro pins st σ H vs us Q J rs ⟨pp, ps, G, xs, d, c, r, e, k⟩
  obtain ⟨x, rfl, e1⟩ := one_inv e
  obtain ⟨v, rfl, r1⟩ := rvl_one r
  unfold intS at e1
  split at e1
  · next a =>
    split at e1
    · next h1 =>
      obtain ⟨n, e2, rfl⟩ := map_inv e1
      cases r1
      exact call_int_str pins st σ H _ us Q J rs ⟨a, n, rfl, e2, of_decide_eq_true h1, k _ G H (Go.refl c) (.int _)⟩
    · cases e1
  · cases e1
def strsL : List PyData → Option (List Str)
  | [] => some []
  | .str z :: r => (strsL r).map (z :: ·)
  | _ => none
theorem strs_rv {K : PySem.W.Frag} {pp : PP} {G : Hp} : ∀ {ds : List PyData} {zs : List Str} {vs : List V}, strsL ds = some zs → RvL K pp G vs ds → vs = zs.map V.str
  | [], zs, vs, e, r => by
    cases e
    cases r
    rfl
  | d :: ds, zs, vs, e, r => by
    unfold strsL at e
    split at e
    · next h => cases h
    · next z rest h =>
      cases h
      obtain ⟨js, e1, rfl⟩ := map_inv e
      cases r with
      | cons r1 r2 =>
        rw [rv_str r1, strs_rv e1 r2]
        rfl
    · cases e
def joinD (x y : PyData) : Option PyData := match x, y with
  | .str a, .list ds => match strsL ds with
    | some zs => if decide ((zs.map (·.length)).sum + zs.length * a.length ≤ 16777216) then some (.str (Txt.join a zs)) else none
    | none => none
  | _, _ => none
theorem pd_join {o e : Expr} {go ge : EG} {apos pos : Pos} (ho : PD X o go) (he : PD X e ge) (hs : starEach [e] X.env = [(false, eval e X.env)] := by rfl) (hbase : attributeBase o "join" X.env (eval o X.env) = eval o X.env := by rfl) (hline : (apos.endLine == pos.line) = true := by rfl) :
    PD X (.Call (.Attribute o "join" apos) [e] [] pos) (eOp joinD go ge) := pe_imp (pe_join ho he hs hbase hline) fun σ H Q ⟨pp, ps, G, S, d, ps', c, s, e, k⟩ => by
  obtain ⟨x, p1, e1, e⟩ := bindP_inv e
  obtain ⟨y, p2, e2, e⟩ := bindP_inv e
  obtain ⟨d', e3, e⟩ := map_inv e
  cases e
  unfold joinD at e3
  split at e3
  · next a ds _ =>
    split at e3
    · next zs e4 =>
      obtain ⟨h1, rfl⟩ := ite_inv e3
      refine ⟨pp, ps, G, S, _, p1, c, s, e1, fun v G1 H1 g1 r1 => ⟨⟨a, rv_str r1⟩, pp, p1, G1, S, _, _, g1.cf, s.go g1, e2, fun w G2 H2 g2 r2 => ?_⟩⟩
      obtain ⟨b, ws, rfl, hx, ha⟩ := rv_lst r2
      have := strs_rv e4 ha
      subst this
      exact ⟨a, b, zs, rv_str r1, rfl, .inl (cf_l g2.cf hx), of_decide_eq_true h1, k _ G2 H2 (g1.trans g2) (.str _)⟩
    · cases e3
  · cases e3
def fmtD (x : PyData) : Option Str := match x with
  | .str z => if decide (z.length ≤ 16777216) then some z else none
  | .int i => if decide (i.natAbs.log2 < 1920) then some (toString i) else none
  | _ => none
theorem pd_fmt {e : Expr} {g : EG} {pos : Pos} (h : PD X e g) : PD X (.FormattedValue e (-1) none pos) (eUn (fun x => (fmtD x).map .str) g) := pe_imp (pe_fmt h) fun σ H Q ⟨pp, ps, G, S, d, ps', c, s, e, k⟩ => by
  obtain ⟨x, p1, e1, e⟩ := bindP_inv e
  obtain ⟨d', e3, e⟩ := map_inv e
  cases e
  obtain ⟨z, e4, rfl⟩ := map_inv e3
  refine ⟨pp, ps, G, S, x, _, c, s, e1, fun v G1 H1 g1 r1 => ?_⟩
  unfold fmtD at e4
  split at e4
  · next y =>
    obtain ⟨h1, rfl⟩ := ite_inv e4
    exact .inl ⟨y, rv_str r1, by rw [sizeLine_eq]; exact of_decide_eq_true h1, k _ G1 H1 g1 (.str _)⟩
  · next i =>
    obtain ⟨h1, rfl⟩ := ite_inv e4
    exact .inr ⟨i, rv_int r1, of_decide_eq_true h1, k _ G1 H1 g1 (.str _)⟩
  · cases e4
def catS : List PyData → Str → Option Str
  | [], acc => some acc
  | .str z :: r, acc => if decide ((acc ++ z).length ≤ 16777216) then catS r (acc ++ z) else none
  | _ :: _, _ => none
inductive PDJ (X : Cx) : List Expr → AG → Prop
  | nil : PDJ X [] aNil
  | cons {e : Expr} {es : List Expr} {g : EG} {gs : AG} : PD X e g → PDJ X es gs → PDJ X (e :: es) (aCons g gs)
theorem pdj_pj {es : List Expr} {gs : AG} (h : PDJ X es gs) : ∃ ts, PJ X es ts ∧ ∀ (σ : L2.St) (H : Hp) (R : Str → Hp → Prop) (acc z : Str) (pp : PP) (ps : Pt) (G : Hp) (S : Sd) (ds : List PyData) (ps' : Pt), Cf pp ps G H → Sl X.K pp G H S σ → gs S ps = some (ds, ps') → catS ds acc = some z →
    (∀ G' H', Go pp ps' [] G H G' H' → R z H') → tJs ts acc σ H R := by
  induction h with
  | nil =>
    refine ⟨[], .nil, fun σ H R acc z pp ps G S ds ps' c s e ec k => ?_⟩
    cases e
    cases ec
    exact k G H (Go.refl c)
  | @cons e es g gs hp _ ih =>
    obtain ⟨ts, h1, h2⟩ := ih
    refine ⟨_ :: ts, .cons hp h1, fun σ H R acc z pp ps G S ds ps' c s e ec k => ?_⟩
    obtain ⟨d, p1, e1, e⟩ := bindP_inv e
    obtain ⟨r, p2, e2, e⟩ := bindP_inv e
    cases e
    refine ⟨pp, ps, G, S, d, p1, c, s, e1, fun v G1 H1 g1 r1 => ?_⟩
    unfold catS at ec
    split at ec
    · next hh => cases hh
    · next acc' y rest hh =>
      cases hh
      split at ec
      · next hl => exact ⟨y, rv_str r1, by rw [sizeLine_eq]; exact of_decide_eq_true hl, h2 σ H1 R _ z pp p1 G1 S _ _ g1.cf (s.go g1) e2 ec fun G' H' g' => k G' H' (g1.trans g')⟩
      · cases ec
    · cases ec
def eFs (gs : AG) : EG := fun S ps => bindP (gs S ps) fun ds p => (catS ds Str.empty).map fun z => (.str z, p)
theorem pd_fs {v1 v2 : Expr} {rest : List Expr} {gs : AG} {pos : Pos} (h : PDJ X (v1 :: v2 :: rest) gs) : PD X (.JoinedStr (v1 :: v2 :: rest) pos) (eFs gs) := by
  obtain ⟨ts, h1, h2⟩ := pdj_pj h
  refine pe_imp (pe_joined h1) fun σ H Q ⟨pp, ps, G, S, d, ps', c, s, e, k⟩ => ?_
  obtain ⟨ds, p1, e1, e⟩ := bindP_inv e
  obtain ⟨z, e2, e⟩ := map_inv e
  cases e
  exact h2 σ H _ _ z pp ps G S ds _ c s e1 e2 fun G' H' g' => k _ G' H' g' (.str z)
end
end DL
set_option Elab.async false
set_option linter.all false
set_option maxRecDepth 100000
set_option maxHeartbeats 1000000
namespace DL
open PySem L2 PySem.W PyProof.Rows
variable [TBL]
section
variable {X : Cx}
def keysS : List (PyData × PyData) → Option (List Str)
  | [] => some []
  | (.str z, _) :: r => (keysS r).map (z :: ·)
  | _ => none
theorem keysS_rv {K : PySem.W.Frag} {pp : PP} {G : Hp} : ∀ {es : List (PyData × PyData)} {zs : List Str} {kvs : List (Key × V)}, keysS es = some zs → RvK K pp G kvs es → kvs.map (·.1) = zs.map Sum.inr
  | [], zs, kvs, e, r => by
    cases e
    cases r
    rfl
  | (k, d) :: es, zs, kvs, e, r => by
    generalize hes : (k, d) :: es = l at r
    cases r with
    | nil => cases hes
    | @cons kk v kvs' d' es' r1 r2 =>
      cases hes
      cases kk with
      | inl i =>
        unfold keysS at e
        simp [keyD] at e
      | inr z =>
        have e' : (keysS es).map (z :: ·) = some zs := by
          have := e
          unfold keysS at this
          simpa [keyD] using this
        obtain ⟨js, e1, rfl⟩ := map_inv e'
        rw [List.map_cons, keysS_rv e1 r2]
        rfl
def sortKD : PyData → Option PyData
  | .dict es => match keysS es with
    | some zs => if notPot es && decide (zs.length < 64) then some (.list ((zs.mergeSort leS).map .str)) else none
    | none => none
  | _ => none
theorem cd_sortK (hc : X.calm = true) : CallR X (.builtin "sorted") (rDL X.K (one sortKD)) := by
  intro pins st σ H vs us Q J rs ⟨pp, ps, G, xs, d, c, r, e, k⟩
  obtain ⟨x, rfl, e1⟩ := one_inv e
  obtain ⟨v, rfl, r1⟩ := rvl_one r
  unfold sortKD at e1
  split at e1
  · next es =>
    split at e1
    · next zs e2 =>
      obtain ⟨h1, rfl⟩ := ite_inv e1
      rw [Bool.and_eq_true] at h1
      obtain ⟨a, kvs, rfl, hr, hkv⟩ := rv_dct r1 h1.1
      refine call_sortedD hc pins st σ H _ us Q J rs ⟨a, kvs, zs, rfl, same_k c.ex hr.rd, keysS_rv e2 hkv, of_decide_eq_true h1.2, fun ys p hp hs hn => ?_⟩
      rw [sorted_one hp hs]
      have gl : Go pp ps [] G H (upd G p (.lst ((zs.mergeSort leS).map V.str))) (upd H p (.lst ((zs.mergeSort leS).map V.str))) := Go.lay c hn
      exact k _ _ _ gl (.lst (.inl upd_same) (rvl_strs _))
    · cases e1
  · cases e1
theorem RvK.at {K : PySem.W.Frag} {pp : PP} {G : Hp} : ∀ {kvs : List (Key × V)} {es : List (PyData × PyData)} {i : Nat} {k : Key} {v : V}, RvK K pp G kvs es → kvs[i]? = some (k, v) → ∃ d, es[i]? = some (keyD k, d) ∧ Rv K pp G v d
  | _, _, i, k, v, .nil, e => by simp at e
  | _, _, 0, k, v, .cons r _, e => by
    have e' : (_, _) = (k, v) := Option.some.inj (by simpa using e)
    cases e'
    exact ⟨_, rfl, r⟩
  | _, _, i + 1, k, v, .cons _ t, e => by
    obtain ⟨d, h1, h2⟩ := RvK.at (i := i) t (by simpa using e)
    exact ⟨d, by simpa using h1, h2⟩
theorem RvX.len {K : PySem.W.Frag} {pp : PP} {G : Hp} : ∀ {ks vs : List V} {es : List (PyData × PyData)}, RvX K pp G ks vs es → ks.length = es.length ∧ vs.length = es.length
  | _, _, _, .nil => ⟨rfl, rfl⟩
  | _, _, _, .cons _ _ c => ⟨congrArg (· + 1) c.len.1, congrArg (· + 1) c.len.2⟩
theorem RvX.keys {K : PySem.W.Frag} {pp : PP} {G : Hp} : ∀ {ks vs : List V} {es : List (PyData × PyData)}, RvX K pp G ks vs es → RvL K pp G ks (es.map (·.1)) ∧ RvL K pp G vs (es.map (·.2))
  | _, _, _, .nil => ⟨.nil, .nil⟩
  | _, _, _, .cons a b c => ⟨.cons a c.keys.1, .cons b c.keys.2⟩
end
end DL
set_option Elab.async false
set_option linter.all false
set_option maxRecDepth 100000
set_option maxHeartbeats 1000000
namespace DL
open PySem L2
variable [TBL]
section
variable {X : Cx}
end
end DL
set_option Elab.async false
set_option linter.all false
set_option maxRecDepth 100000
set_option maxHeartbeats 1000000
namespace DL
open PySem PySem.Spec PyProof.Rows L2
variable [TBL]
def putF (ob : Addr → Obj) : Hp → List Addr → List (Key × V) → Hp
  | H, a :: as, p :: kvs => putF ob (upd H a (.frz (ob a) (.tup [kV p.1, p.2]))) as kvs
  | H, _, _ => H
section
variable {X : Cx}
end
end DL
set_option Elab.async false
set_option linter.all false
set_option maxRecDepth 100000
set_option maxHeartbeats 1000000
namespace DL
open PySem PySem.W PySem.Calls PyProof.Rows PyProof.V PySem.Spec L2
variable [TBL]
section
variable {X : Cx}
end
end DL
set_option Elab.async false
set_option linter.all false
set_option maxRecDepth 100000
set_option maxHeartbeats 1000000
namespace DX
open PySem PySem.W PySem.Calls PyProof.Rows PySem.HandSPX Builtin Builtin.ObjectAttr
abbrev iSup (m : Str) (j : Nat) (p0 p1 p2 p3 p4 p5 : Pos) : Stmt := .Expr (.Call (.Attribute (.Call (.Name "super" p0) [] [] p1) "__init__" p2) [.Constant (.str m) j p3] [] p4) p5
abbrev iSet (f : Str) (q1 q2 q3 q4 : Pos) : Stmt := .Assign [.Attribute (.Name "self" q1) f q2] (.Name f q3) q4
abbrev iPar (ps : List Arg) : Arguments := { posonlyargs := [], args := ps, vararg := none, kwonlyargs := [], kw_defaults := [], kwarg := none, defaults := [] }
structure BaseT (B newId initId : String) (bmB : List Value) : Prop where
  fb : ExcBaseFacts B newId initId bmB
  kf : KxsFacts B initId
  sf : StoreFacts B bmB "object.__setattr__" "object"
abbrev tailV : List Value := [.type "ValueError", .type "Exception", .type "BaseException", .type "object"]
theorem baseV : BaseT "ValueError" "ValueError.__new__" "ValueError.__init__" tailV := ⟨F.excBase_ValueError, kxs_ValueError, F.store_ValueError⟩
structure ExC (prog : Program) (K : Frag) (mg : Str → Option Value) (C fI cda cc : Addr) (q : Str) (params : Arguments) (body : List Stmt) (scope : Scope) (B newId initId : String) (bmB : List Value) : Prop where
  bt : BaseT B newId initId bmB
  ei : excInitIn K C bmB newId = true
  ov : excOver K C bmB = true
  iC : findIn K (.ref C) "__init__" = some (some (.ref fI))
  tC : typeIn K (.ref fI) = some (.type "function")
  kC : keepIn K (.ref C) = true
  exC : subIn K (.ref C) (.type "BaseException") = some true
  tyC : typeIn K (.ref C) = some (.type "type")
  hdC : hasDictIn K C = true
  sa : findIn K (.ref C) "__setattr__" = some (some (.builtin "object.__setattr__"))
  sup : ks_superIn K C C "__init__" = some (some (.builtin initId))
  sB : subIn K (.ref C) (.type B) = some true
  sC : mroIn K C (.ref C) = some true
  opq : nsIn K cStatics "thirdparty.any" = some none
  spn : mg "super" = none
  top : (prog.main.scope.names.lookup ("super" : Str)).isSome = false
  fn : ∃ (oc : Value) (od : Option Addr) (doc pm : Value) (an : Option Addr) (ct : Value) (osl : Array (Option Value)), K.lookup fI = some ⟨oc, od, .func (ksFn "__init__" q params body scope .none .none doc pm an (.ref cda) ct cc), osl⟩ ∧ codeIn K (.ref cda) q = true
  cell : ∃ (cl : Value) (cld : Option Addr) (csl : Array (Option Value)), K.lookup cc = some ⟨cl, cld, .cell (some (.ref C)), csl⟩
  code : ∃ (ccl : Value) (cdd : Option Addr) (ccs : Array (Option Value)) (vs : Array Value) (file : Str) (tf : Tok), K.lookup cda = some ⟨ccl, cdd, .fields vs, ccs⟩ ∧ vs[2]? = some (.str file tf) ∧ ((prog.main.file : Str) == file) = true
  k1 : scope.names.lookup ("super" : Str) = some .globalImplicit
  k2 : scope.names.lookup ("__class__" : Str) = some .free
  k3 : scope.names.lookup ("self" : Str) = some .local
  k4 : scope.kind = .function
  k5 : scope.isCoroutine = false
  k6 : scope.isGenerator = false
  k7 : ∀ y ∈ scope.names, y.2 ≠ .cell
  par : ∃ a0 rest, params = iPar (a0 :: rest) ∧ a0.arg = "self"
section
variable {prog : Program} {w : World} {A : Around} {E : Value → Shared → Prop} {K : Frag} {mg : Str → Option Value} {base : Heap} {C fI cda cc : Addr} {q : Str} {params : Arguments} {body : List Stmt} {scope : Scope} {B newId initId : String} {bmB : List Value}
theorem call_mw {h : Heap} {g : Array GenState} {d : Drawn} {t : Nat} {os : OsState} {u x t0 : Addr} {rest : List Value} {Q : Value → Shared → Prop} (T : ExC prog K mg C fI cda cc q params body scope B newId initId bmB) (X : K.In h) (hu : h.get? u = some (kxs_mw initId x)) (hx : h.get? x = some (excO C t0)) (hz : rest.length ≤ sizeLine)
    (hq : ∀ h' t1, (∀ b o, b ≠ x → h.get? b = some o → h'.get? b = some o) → h'.get? x = some (excO C t1) → Q .none ⟨h', g, d, t, os⟩) : wpAny (model prog w) A (call (.ref u) rest) Q E ⟨h, g, d, t, os⟩ := by
  obtain ⟨nm, N', qn, bs, bm, hdct, sn, sub, ab, col, dd, k0, k1, k2, k3, k5, hC, hT⟩ := excInit_of X T.ei
  refine wpAny_call (codeAny_of_tree ?_)
  show wpAny _ A.in1 (callAny (.ref u) ⟨rest, []⟩) _ _ _
  simp only [callAny]
  refine wpAny_bind (wpAny_load hu ?_)
  simp only [kxs_mw, show (Value.type "method-wrapper" == Value.type "method" || Value.type "method-wrapper" == Value.type "builtin_function_or_method" || Value.type "method-wrapper" == Value.type "method-wrapper") = true by decide, if_true]
  refine KFB.if_so (by decide) ?_
  refine wpAny_bind (check_bound_init T.bt.fb.toExcCallFacts hC hx rfl ?_)
  refine wpAny_bind (wpAny_pure (wpAny_pure ?_))
  refine ⟨plainId_quiet T.bt.fb.init.plain _, codeAny_builtin T.bt.fb.initEntry ?_⟩
  exact exc_init_tree (cls := .ref C) (t0 := t0) (dv := none) (c2 := .none) (c3 := .none) (b4 := .bool false) hx hz fun h' k e _ => hq h' _ k e
theorem sup_step {s : Shared} {L x t0 : Addr} {m : Str → Option Value} {msg : Str} {j : Nat} {p0 p1 p2 p3 p4 p5 : Pos} {Q : Flow → Shared → Prop} (T : ExC prog K mg C fI cda cc q params body scope B newId initId bmB) (M : L2.Mod K mg base) (kb : ∀ b o, base.get? b = some o → s.heap.get? b = some o)
    (hp : (p2.endLine == p4.line) = true) (hn : s.heap.Ns L m) (hs : m "self" = some (.ref x)) (hx : s.heap.get? x = some (excO C t0))
    (hq : ∀ h' tk t1, (∀ b o, b ≠ x → s.heap.get? b = some o → h'.get? b = some o) → h'.get? x = some (excO C t1) → Q .next { s with heap := h', toks := tk }) :
    PySem.wpAt (model prog w) A (.func body (ksEnv q scope L fI (.ref cda) cc)) (exec (iSup msg j p0 p1 p2 p3 p4 p5) (ksEnv q scope L fI (.ref cda) cc)) Q E s := by
  obtain ⟨oc, od, doc, pm, an, ct, osl, ho, hcd⟩ := T.fn
  obtain ⟨cl, cld, csl, hcell⟩ := T.cell
  obtain ⟨ccl, cdd, ccs, vs, file, tf, hcode, hvs, hfile⟩ := T.code
  obtain ⟨a0, rest, hpar, ha0⟩ := T.par
  obtain ⟨mb, hmb, hbb⟩ := M.blt
  have X : K.In s.heap := M.kin.keeps kb
  obtain ⟨hh, g, d, t, os⟩ := s
  obtain ⟨cd, hc, _⟩ := any_some T.hdC
  have hm := T.sup
  unfold ks_superIn at hm
  rw [hc] at hm
  obtain ⟨oD, hD1, hD2⟩ : ∃ oD, hh.get? C = some oD ∧ oD.data = .cls cd := by
    unfold clsIn at hc
    split at hc
    · rename_i c d cd' sl ho
      cases hc
      exact ⟨_, X _ _ ho, rfl⟩
    · cases hc
  have I : InstAt hh x (excO C t0) C none := ⟨hx, rfl, rfl, trivial⟩
  have hin : interactive (ksEnv q scope L fI (.ref cda) cc) = false := by
    unfold interactive
    have z : (scope.kind == ScopeKind.module) = false := by rw [T.k4]; rfl
    show (scope.kind == ScopeKind.module && _) = false
    rw [z, Bool.false_and]
  have he : eval (.Call (.Attribute (.Call (.Name "super" p0) [] [] p1) "__init__" p2) [.Constant (.str msg) j p3] [] p4) (ksEnv q scope L fI (.ref cda) cc) = (do
      let ov ← attributeBase (.Call (.Name "super" p0) [] [] p1) "__init__" (ksEnv q scope L fI (.ref cda) cc) (eval (.Call (.Name "super" p0) [] [] p1) (ksEnv q scope L fI (.ref cda) cc))
      standAt p2.atName
      let (f, first) ← holding [ov] (getMethod ov "__init__" (do return (← importBound (.Call (.Name "super" p0) [] [] p1) (ksEnv q scope L fI (.ref cda) cc)).getD true))
      callWith p4 f first (backTo p4 (starEach [.Constant (.str msg) j p3] (ksEnv q scope L fI (.ref cda) cc))) []) := by
    have hmp : methodCallPos true (.Call (.Name "super" p0) [] [] p1) (ksEnv q scope L fI (.ref cda) cc) p2 p4 = pure p4 := by
      unfold methodCallPos
      rw [hp]
      rfl
    show (do
      let ov ← attributeBase (.Call (.Name "super" p0) [] [] p1) "__init__" (ksEnv q scope L fI (.ref cda) cc) (eval (.Call (.Name "super" p0) [] [] p1) (ksEnv q scope L fI (.ref cda) cc))
      standAt p2.atName
      (do
        let (f, first) ← holding [ov] (calleeOf true (.Call (.Name "super" p0) [] [] p1) (ksEnv q scope L fI (.ref cda) cc) ov "__init__")
        let callPos ← methodCallPos true (.Call (.Name "super" p0) [] [] p1) (ksEnv q scope L fI (.ref cda) cc) p2 p4
        callWith callPos f first (backTo p4 (starEach [.Constant (.str msg) j p3] (ksEnv q scope L fI (.ref cda) cc))) [])) = _
    rw [hmp]
    rfl
  refine ks_wpAt_Expr_any (ks_wpAt_MethodCall ?_ he) hin
  refine ks_wpAt_super_base (env := ksEnv q scope L fI (.ref cda) cc) (ar := a0) T.k1 T.k2 (by decide) rfl (X _ _ ho) rfl (by rw [hpar]; rfl) rfl (X _ _ hcode) rfl hvs hfile T.top ?_
  refine ks_loadName_global T.k4 T.k1 (loadGlobal_builtin (env := ksEnv q scope L fI (.ref cda) cc) (M.glob.keeps kb) T.spn (hmb.keeps kb) ((hbb _ (by decide)).trans (by decide +kernel)) ⟨rfl, ?_⟩)
  refine wpAny_loadName_free T.k4 T.k2 rfl ⟨_, X _ _ hcell, rfl⟩ ?_
  rw [ha0]
  refine wpAny_loadName_local T.k4 T.k3 hn hs ?_
  refine ks_wpAny_isType_cls hD1 hD2 ⟨rfl, ?_⟩
  refine ks_wpAny_call_super hD1 hD2 hx rfl (fun c e => by cases e) (looks_mroIn X T.sC) (fun h1 e1 kk1 => ?_)
  have X1 : K.In h1 := X.keeps kk1
  have I1 : InstAt h1 x (excO C t0) C none := ⟨kk1 _ _ hx, rfl, rfl, trivial⟩
  have hI : Looks (model prog w) h1 (isInstance (.ref x) (.type B)) true := I1.type.andThen (looks_subIn X1 T.sB)
  refine kxs_getMethod T.bt.kf e1 (looks_opaque X1 T.opq) (l₀ := cd.mro) (fun A Q E s k q => wpAny_bind ((looks_clsIn X1 hc) A _ E s k (wpAny_pure q))) rfl X1 hm hI (ks_ne X1 I1 hc) (by decide) ?_
  have hu : (h1.push (kxs_mw initId x)).get? h1.objs.size = some (kxs_mw initId x) := Heap.get?_push_at rfl rfl
  have k2 : ∀ b o, h1.get? b = some o → (h1.push (kxs_mw initId x)).get? b = some o := fun b o e => Heap.get?_push_of_some _ e
  refine kxs_callWith (i := initId) (x := x) (by rfl) ?_
  show wpAny _ _ (evalArgs _ true ((false, eval (.Constant (.str msg) j p3) _) :: []) []) _ _ _
  refine evalArgs_plain (Calls.spliced_cons (wpAny_Constant_str (Calls.spliced_nil ⟨hu, ?_⟩)))
  refine call_mw T (X1.keeps k2) hu (k2 _ _ (kk1 _ _ hx)) (by rw [sizeLine_eq]; exact (by decide : 1 ≤ 16777216)) fun h' t1 k3 e3 => ?_
  exact hq h' _ t1 (fun b o hb ho => k3 b o hb (k2 b o (kk1 b o ho))) e3
theorem set_first {s : Shared} {x t0 : Addr} {f : Str} {v : Value} {Q : Unit → Shared → Prop} (T : ExC prog K mg C fI cda cc q params body scope B newId initId bmB) (X : K.In s.heap) (hx : s.heap.get? x = some (excO C t0)) (hno : findIn K (.ref C) f = some none)
    (hq : ∀ h' tk dx, (∀ b o, b ≠ x → s.heap.get? b = some o → h'.get? b = some o) → s.heap.objs.size ≤ dx → dx ≠ x → h'.get? x = some { cls := .ref C, dict := some dx, data := .fields #[.ref t0, .none, .none, .none, .bool false, .none] } →
      h'.Ns1 dx (fun y => if y = f then some v else none) → Q () { s with heap := h', toks := tk }) : wpAny (model prog w) A (setAttr (.ref x) f v) Q E s := by
  have I : InstAt s.heap x (excO C t0) C none := ⟨hx, rfl, rfl, trivial⟩
  obtain ⟨cd, hcd, hh⟩ := any_some T.hdC
  have hcls : Looks (model prog w) s.heap (classData C) cd := looks_clsIn X hcd
  have hxs : x ≠ s.heap.objs.size := Nat.ne_of_lt (Heap.lt_size hx)
  refine set_plain X I T.sa ?_
  refine osa_openX (s := { s with toks := s.toks + 1 }) (r := none) T.bt.sf X I T.ov (by unfold takerIn; rw [hno]; rfl) fun b => ?_
  show wpAny _ _ (storeInOwnDict (.ref x) (.ref C) _ f v b) _ _ _
  obtain ⟨hp, g, d, t, os⟩ := s
  obtain ⟨nm, bs, mro, ns, qn, hd, sn, sb, ab, col, del⟩ := cd
  dsimp only at hh
  subst hh
  unfold storeInOwnDict ownDictForStores
  repeat (first | with_reducible refine HandSPX.store_in_new ?_ ?_ | with_reducible refine wpAny_loadPart_at hx ?_ | with_reducible refine hcls.at ?_ | wp_step)
  · exact ⟨_, #[], _, (Heap.get?_update_ne _ _ _ _ hxs.symm).trans (Heap.get?_push_at rfl rfl), rfl, fun e he => absurd he (by simp), fun _ => rfl⟩
  · intro h' tk' hn' hs
    have hx₁ : (hp.push { cls := .type "dict", data := .dict #[] }).get? x = some (excO C t0) := Heap.get?_push_of_some _ hx
    refine hq h' tk' hp.objs.size (fun b o hb ho => ?_) (Nat.le_refl _) hxs.symm ?_ hn'
    · exact (hs.2 b (Nat.ne_of_lt (Heap.lt_size ho))).trans ((Heap.get?_update_ne _ _ _ _ hb).trans (Heap.get?_push_of_some _ ho))
    · exact (hs.2 x hxs).trans (Heap.get?_update_self _ hx₁ rfl)
end
end DX
set_option Elab.async false
set_option linter.all false
set_option maxRecDepth 100000
set_option maxHeartbeats 1000000
namespace DX
open PySem PySem.W PySem.Calls PyProof.Rows PySem.HandSPX
structure Ex1 (prog : Program) (K : Frag) (mg : Str → Option Value) (x : Str) (C : Addr) (f : Str) : Prop where
  gC : mg x = some (.ref C)
  no : findIn K (.ref C) f = some none
  nd : (f == ("__debug__" : Str)) = false
  ns : f ≠ "self"
  ex : ∃ (fI cda cc : Addr) (q : Str) (params : Arguments) (body : List Stmt) (scope : Scope) (B newId initId : String) (bmB : List Value), ExC prog K mg C fI cda cc q params body scope B newId initId bmB ∧ scope.names.lookup f = some .local ∧
    ∃ (a0 a1 : Arg) (m : Str) (j : Nat) (p0 p1 p2 p3 p4 p5 q1 q2 q3 q4 : Pos), params = iPar [a0, a1] ∧ a0.arg = "self" ∧ a1.arg = f ∧ body = [iSup m j p0 p1 p2 p3 p4 p5, iSet f q1 q2 q3 q4] ∧ (p2.endLine == p4.line) = true ∧
      ∀ (doc pm ct u v : Value) (an : Option Addr), bindArgs (ksFn "__init__" q params body scope .none .none doc pm an (.ref cda) ct cc) ⟨[u, v], []⟩ = pure [((("self" : Str)), u), (f, v)]
structure Made (h h' : Heap) (e C : Addr) (d : Option Addr) : Prop where
  keep : ∀ b o, h.get? b = some o → h'.get? b = some o
  new : h.objs.size ≤ e
  obj : ∃ oe vs, h'.get? e = some oe ∧ oe.cls = .ref C ∧ oe.dict = d ∧ oe.data = .fields vs ∧ vs[1]? = some .none
section
variable {prog : Program} {w : World} {A : Around} {E : Value → Shared → Prop} {R : Result → Shared → Prop} {K : Frag} {mg : Str → Option Value} {base : Heap} {C fI cda cc : Addr} {q x f : Str} {params : Arguments} {body : List Stmt} {scope : Scope} {B newId initId : String} {bmB : List Value}
theorem made_by {hp : Heap} {g : Array GenState} {dr : Drawn} {tk : Nat} {os : OsState} {us : List Value} (T : ExC prog K mg C fI cda cc q params body scope B newId initId bmB) (X : K.In hp) (hz : us.length ≤ sizeLine)
    (hq : ∀ h1, (∀ b o, hp.get? b = some o → h1.get? b = some o) → h1.get? (hp.objs.size + 1) = some (excO C hp.objs.size) → h1.objs.size = hp.objs.size + 2 → codeAny (model prog w) (A.under (.builtin "type.__call__" ⟨.ref C :: us, []⟩)) (.call (.ref fI) ⟨.ref (hp.objs.size + 1) :: us, []⟩) (W.InitBack (hp.objs.size + 1) R) ⟨h1, g, dr, tk, os⟩) :
    codeAny (model prog w) A (.call (.ref C) ⟨us, []⟩) R ⟨hp, g, dr, tk, os⟩ := by
  obtain ⟨nm, N', qn, bs, bm, hdct, sn, sub, ab, col, dd, k0, k1, k2, k3, k5, hC, hT⟩ := excInit_of X T.ei
  refine call_own T.bt.fb hT hC (looks_findIn X T.iC) (fun self => bind_fn X self T.tC) hz ?_
  refine hq _ (fun b o e => Heap.get?_push_of_some _ (Heap.get?_push_of_some _ e)) (by heap_get) ?_
  rw [Heap.size_push, Heap.size_push]
theorem made1 {s : Shared} {v : Value} (T : Ex1 prog K mg x C f) (M : L2.Mod K mg base) (kb : ∀ b o, base.get? b = some o → s.heap.get? b = some o) (hlim : s.heap.NoLimit) (hroom : A.depth + 1 < recursionLimit)
    (hq : ∀ h' tk e d, Made s.heap h' e C (some d) → s.heap.objs.size ≤ d → d ≠ e → h'.Ns1 d (fun y => if y = f then some v else none) → R (.ok (.ret (.ref e))) { s with heap := h', toks := tk }) : codeAny (model prog w) A (.call (.ref C) ⟨[v], []⟩) R s := by
  have hno := T.no
  have hnd := T.nd
  have hns := T.ns
  obtain ⟨fI, cda, cc, q, params, body, scope, B, newId, initId, bmB, T, hkf, a0, a1, m, j, p0, p1, p2, p3, p4, p5, q1, q2, q3, q4, rfl, ha0, ha1, rfl, hp, hbd⟩ := T.ex
  obtain ⟨hh, g, dr, tk, os⟩ := s
  obtain ⟨oc, od, doc, pm, an, ct, osl, ho, hcd⟩ := id T.fn
  have X : K.In hh := M.kin.keeps kb
  refine made_by T X (by rw [sizeLine_eq]; exact (by decide : 1 ≤ 16777216)) fun h1 kk hx hs1 => ?_
  have X1 := X.keeps kk
  refine ks_codeAny_call_defAt (binds := [("self", .ref (hh.objs.size + 1)), (f, v)]) hroom (X1 _ _ ho) rfl (hlim.keeps kk) (codeRec_of X1 hcd) rfl (BindsTo.of_eq (hbd _ _ _ _ _ _)) T.k7 (fun y hy => ?_) (fun h0 hn k0 => ?_) T.k5 T.k6 T.k4
  · simp only [List.mem_cons, List.not_mem_nil, or_false] at hy
    rcases hy with rfl | rfl
    · exact T.k3
    · exact hkf
  · have ns' : (("self" : Str) == f) = false := by
      rw [beq_eq_false_iff_ne]
      exact Ne.symm hns
    have lS : List.lookup ("self" : Str) [(("self" : Str), Value.ref (hh.objs.size + 1)), (f, v)].reverse = some (.ref (hh.objs.size + 1)) := by
      simp [List.lookup, ns']
    have lF : List.lookup f [(("self" : Str), Value.ref (hh.objs.size + 1)), (f, v)].reverse = some v := by
      simp [List.lookup]
    refine ks_wpAt_execs_cons (sup_step (x := hh.objs.size + 1) (t0 := hh.objs.size) T M (fun b o e => k0 b o (kk b o (kb b o e))) hp hn lS (k0 _ _ hx) fun h' tk' t1 k' hx' => ?_)
    show PySem.wpAt _ _ _ (execs [iSet f q1 q2 q3 q4] _) _ _ _
    have nL : h1.objs.size ≠ hh.objs.size + 1 := by rw [hs1]; omega
    have hn' : h'.Ns h1.objs.size (fun y => List.lookup y [(("self" : Str), Value.ref (hh.objs.size + 1)), (f, v)].reverse) := by
      obtain ⟨oL, es, ep, hL, r⟩ := hn
      exact ⟨oL, es, ep, k' _ _ nL hL, r⟩
    have X2 : K.In h' := fun b o e => k' b o (fun z => by
      have := Heap.lt_size (X b o e)
      rw [z] at this
      exact absurd (Nat.lt_of_succ_lt this) (Nat.lt_irrefl _)) (k0 b o (X1 b o e))
    refine ks_wpAt_execs_cons (ks_wpAt_Assign_Attr ?_)
    refine wpAt_of_wpAny (wpAny_Name (wpAny_loadName_local T.k4 hkf hn' lF ?_) hnd)
    refine wpAny_Name (wpAny_loadName_local T.k4 T.k3 hn' lS ?_) (by decide)
    refine set_first (s := { heap := h', gens := g, drawn := dr, toks := tk', os := os }) T X2 hx' hno fun h3 tk3 dx k3 dn dne hx3 hn3 => ?_
    show PySem.wpAt _ _ _ (execs [] _) _ _ _
    refine wpAt_of_wpAny (wpAny_execs_nil ?_)
    have hsz : hh.objs.size ≤ h'.objs.size := by
      exact Nat.le_of_lt (Nat.lt_of_succ_lt (Heap.lt_size hx'))
    refine ⟨rfl, hq h3 tk3 (hh.objs.size + 1) dx ⟨fun b o e => ?_, Nat.le_succ _, _, _, hx3, rfl, rfl, rfl, rfl⟩ (Nat.le_trans hsz dn) dne hn3⟩
    have nb : b ≠ hh.objs.size + 1 := Nat.ne_of_lt (Nat.lt_succ_of_lt (Heap.lt_size e))
    exact k3 b o nb (k' b o nb (k0 b o (kk b o e)))
end
end DX
namespace DX
open PySem PySem.Spec PyProof.Rows L2
theorem relO_one {v : V} {v' : Value} (r : RelV v v') (f g : Str) : RelO (List.lookup g [(f, v)]) (if g = f then some v' else none) := by
  by_cases hw : g = f
  · subst hw
    rw [if_pos rfl]
    have e : List.lookup g [(g, v)] = some v := by simp [List.lookup]
    rw [e]
    exact r
  · have e : List.lookup g [(f, v)] = none := by
      have : (g == f) = false := by simpa using hw
      simp [List.lookup, this]
    rw [if_neg hw, e]
    trivial
section
variable {X : Cx} {C : Addr} {x f : Str}
def tMk1 (C : Addr) (f : Str) (ta : TA) : L2.St → Hp → XK → Prop := fun σ H Q => ta σ H fun vs H1 => ∃ v, vs = [v] ∧ ∀ d, H1 d = none → Q (.ref C) (some d) (upd H1 d (.xd [(f, v)]))
theorem pmk1 {a : Expr} {ta : TA} {p pos : Pos} {k : Nat} (T : Ex1 X.prog X.K X.mg x C f) (kC : PySem.W.keepIn X.K (.ref C) = true) (rs : Raises X (.ref C)) (hr : Room k X.A) (ha : PA X [a] ta) (hg : Gl X x) (hdb : (x == ("__debug__" : Str)) = false := by decide)
    (he : starEach (a :: []) X.env = (false, eval a X.env) :: starEach [] X.env := by rfl) (hpl : (backTo pos (starEach [] X.env)).any (·.1) = false := by rfl) : PMk X (.Call (.Name x p) [a] [] pos) (tMk1 C f ta) := by
  intro pins s σ H Q I h
  refine wpAny_Call_Name_kw (ld_glob I hg T.gC ?_ hdb)
  refine PySem.W.callWith_K (h₀ := X.base) I.ok.mod.kin kC (thn (ha.run pos pins s σ H _ I h) fun us s1 hh => ?_) he hpl
  obtain ⟨vs, H1, I1, r1, v, ev, q1⟩ := hh
  subst ev
  refine ⟨I1.kIn, ?_⟩
  obtain ⟨u, rfl, ru⟩ := vals1 r1
  show wpAny _ _ (call (.ref C) [u]) _ _ _
  have hlim := I1.nolimit
  obtain ⟨hp, g, dr, tk, os⟩ := s1
  refine wpAny_call (made1 T I1.ok.mod I1.bk hlim (by have := hr.dp; omega) fun h' tk' e d M dbig dne hns => ?_)
  show MkP X pins σ Q (.ref e) ⟨h', g, dr, tk', os⟩
  obtain ⟨oe, fv, hoe, hc, hd, hdat, h1⟩ := M.obj
  obtain ⟨G', g1, g2⟩ := restrict h' fun b => decide (b ≠ e)
  have gk : ∀ b, b ≠ e → G'.get? b = h'.get? b := fun b hb => g1 b (decide_eq_true hb)
  have ge : G'.get? e = none := g2 e (by simp)
  have up : ∀ b o, hp.get? b = some o → G'.get? b = some o := fun b o z => (gk b (Nat.ne_of_lt (Nat.lt_of_lt_of_le (Heap.lt_size z) M.new))).trans (M.keep b o z)
  have ob : ObjOk X.prog X.w (upd H1 d (.xd [(f, v)])) G' d (.xd [(f, v)]) := ⟨_, hns.at (fun o z => (gk d dne).trans z), fun g => relO_one ru f g⟩
  have J : Inv X pins σ (upd H1 d (.xd [(f, v)])) ⟨G', g, dr, tk', os⟩ := I1.laid (t' := tk') up dbig ob
  refine ⟨e, oe, fv, ⟨G', g, dr, tk', os⟩, _, .ref C, some d, rfl, J, fun b o z => ?_, ge, hoe, ⟨hc, hd⟩, hdat, h1, ?_, rfl, I1.bare, rs, q1 d (I1.hok.fresh dbig)⟩
  · by_cases hb : b = e
    · have z' : G'.get? b = some o := z
      rw [hb, ge] at z'
      cases z'
    · exact (gk b hb).symm.trans z
  · rw [upd_ne (Ne.symm dne)]
    exact I1.hok.fresh M.new
end
end DX
set_option Elab.async false
set_option linter.all false
set_option maxRecDepth 100000
namespace DL
open PySem L2
variable [TBL]
def excD (c : Str) (fs : List (Str × PyData)) : PyData := .dict ((.none, .str c) :: fs.map fun p => (.str p.1, p.2))
def flds : List (PyData × PyData) → Option (List (Str × PyData))
  | [] => some []
  | (.str n, d) :: r => (flds r).map ((n, d) :: ·)
  | _ :: _ => none
def excOf : PyData → Option (Str × List (Str × PyData))
  | .dict ((.none, .str c) :: es) => (flds es).map (c, ·)
  | _ => none
theorem flds_map : ∀ fs : List (Str × PyData), flds (fs.map fun p => (.str p.1, p.2)) = some fs
  | [] => rfl
  | (n, d) :: r => by
    show (flds (r.map fun p => (.str p.1, p.2))).map ((n, d) :: ·) = _
    rw [flds_map r]
    rfl
@[simp] theorem excOf_excD (c : Str) (fs : List (Str × PyData)) : excOf (excD c fs) = some (c, fs) := by
  show (flds (fs.map fun p => (.str p.1, p.2))).map (c, ·) = _
  rw [flds_map]
  rfl
theorem rv_noexc {K : PySem.W.Frag} {pp : PP} {G : Hp} {v : V} {d : PyData} (h : Rv K pp G v d) : excOf d = none := by
  cases h with
  | non => rfl
  | bl b => rfl
  | int i => rfl
  | str x => rfl
  | lst _ _ => rfl
  | tup _ _ => rfl
  | pot _ => rfl
  | lef _ => rfl
  | slf _ => rfl
  | obj _ _ => rfl
  | lam _ _ _ => rfl
  | clo _ _ _ _ _ _ => rfl
  | exv _ _ => rfl
  | dkx h1 h2 h3 =>
    cases h3 with
    | nil => rfl
    | cons _ _ _ =>
      obtain ⟨l, rfl⟩ := mxOk_head h2.ok
      rfl
  | dct _ h =>
    cases h with
    | nil => rfl
    | @cons k v kvs d es r t =>
      cases k <;> rfl
  | @pr a v w x y _ _ _ => cases x <;> rfl
def XD (K : PySem.W.Frag) (pp : PP) (G H : Hp) (od : Option Addr) (fs : List (Str × PyData)) : Prop :=
  (fs = [] ∧ od = none) ∨ ∃ (dd : Addr) (fvs : List (Str × V)), od = some dd ∧ H dd = some (.xd fvs) ∧ pp.no dd ∧ fvs.map (·.1) = fs.map (·.1) ∧ RvL K pp G (fvs.map (·.2)) (fs.map (·.2)) ∧ fs ≠ []
theorem nt_xd {fvs : List (Str × V)} : NT (.xd fvs) := fun _ z => by cases z
section
variable {K : PySem.W.Frag} {pp : PP} {ps ps1 : Pt} {G H G1 H1 : Hp}
theorem XD.go {od : Option Addr} {fs : List (Str × PyData)} (x : XD K pp G H od fs) (g : Go pp ps1 [] G H G1 H1) : XD K pp G1 H1 od fs := by
  rcases x with x | ⟨dd, fvs, e, h, np, hn, r, ne⟩
  · exact .inl x
  · exact .inr ⟨dd, fvs, e, g.keep dd _ h np (by simp) nt_xd, np, hn, RvL.mono g.gg _ _ r, ne⟩
end
def TDX (K : PySem.W.Frag) (W : WX) (g : EG) : TE := fun σ H Q => ∃ (pp : PP) (ps : Pt) (G : Hp) (S : Sd) (d : PyData) (ps' : Pt), Cf pp ps G H ∧ Sl K pp G H S σ ∧ g S ps = some (d, ps') ∧
  (∀ v G' H', Go pp ps' [] G H G' H' → Rv K pp G' v d → Q v H') ∧
  ∀ c fs, excOf d = some (c, fs) → ∀ od G' H', Go pp ps' [] G H G' H' → XD K pp G' H' od fs → W (.ref (TBL.C c)) od σ H'
abbrev PDX (X : Cx) (W : WX) (e : Expr) (g : EG) : Prop := PE X e (TDX X.K W g)
def TDSX (K : PySem.W.Frag) (E : XK) (g : SG) : TS := fun D σ H => ∃ (pp : PP) (ps : Pt) (G : Hp) (S : Sd) (r : OutS) (ps' : Pt), Cf pp ps G H ∧ Sl K pp G H S σ ∧ g S ps = some (r, ps') ∧ EndD K D pp ps' S σ G H r ∧
  ∀ d c fs, r = .rt d → excOf d = some (c, fs) → ∀ od G' H', GoS pp ps' S σ G H [] [] G' H' → XD K pp G' H' od fs → E (.ref (TBL.C c)) od H'
abbrev PDSX (X : Cx) (E : XK) (st : Stmt) (g : SG) : Prop := PS X st (TDSX X.K E g)
abbrev PDSsX (X : Cx) (E : XK) (st : List Stmt) (g : SG) : Prop := PSs X st (TDSX X.K E g)
abbrev TkX (X : Cx) (E : XK) : Prop := Takes X (fun cls d _ H => E cls d H)
section
variable {X : Cx} {W : WX} {E : XK}
theorem pdsx_of {st : Stmt} {g : SG} (h : PDS X st g) : PDSX X E st g := ⟨fun pins s σ H D I ⟨pp, ps, G, S, r, ps', c, sl, eg, k, _⟩ => h.run pins s σ H D I ⟨pp, ps, G, S, r, ps', c, sl, eg, k⟩⟩
theorem pdssx_of {st : List Stmt} {g : SG} (h : PDSs X st g) : PDSsX X E st g := ⟨fun pins s σ H D I ⟨pp, ps, G, S, r, ps', c, sl, eg, k, _⟩ => h.run pins s σ H D I ⟨pp, ps, G, S, r, ps', c, sl, eg, k⟩⟩
theorem pdsx_seq {st : Stmt} {rest : List Stmt} {a b : SG} (ha : PDSX X E st a) (hb : PDSsX X E rest b) : PDSsX X E (st :: rest) (sSeq a b) := pss_imp (pss_cons ha hb) fun D σ H ⟨pp, ps, G, S, r, ps', c, s, e, k, kx⟩ => by
  unfold sSeq at e
  split at e
  · next S1 p1 e1 => exact ⟨pp, ps, G, S, _, p1, c, s, e1, fun σ1 G1 H1 g1 s1 => ⟨pp, p1, G1, S1, r, ps', g1.cf, s1, e, EndD.back g1 k, fun d c fs er ex od G' H' g' x => kx d c fs er ex od G' H' (g1.trans g') x⟩, fun d c fs er => by cases er⟩
  · next d p1 e1 =>
    cases e
    exact ⟨pp, ps, G, S, _, _, c, s, e1, k, kx⟩
  · next d p1 e1 =>
    cases e
    exact ⟨pp, ps, G, S, _, _, c, s, e1, k, kx⟩
  · next d p1 e1 =>
    cases e
    exact ⟨pp, ps, G, S, _, _, c, s, e1, k, kx⟩
  · cases e
theorem pdsx_one {st : Stmt} {a : SG} (ha : PDSX X E st a) : PDSsX X E [st] a := pss_one ha
theorem pdsx_nil : PDSsX X E [] sNil := pdssx_of pds_nil
theorem pdsx_if {t : Expr} {sa sb : List Stmt} {g : BG} {a b : SG} {pos : Pos} (ht : PDT X t g) (ha : PDSsX X E sa a) (hb : PDSsX X E sb b) : PDSX X E (.If t sa sb pos) (sIf g a b) := ps_imp (ps_if ht ha hb) fun D σ H ⟨pp, ps, G, S, r, ps', c, s, e, k, kx⟩ => by
  obtain ⟨x, p1, e1, e⟩ := bindP_inv e
  refine ⟨pp, ps, G, S, x, p1, c, s, e1, fun G1 H1 g1 => ?_⟩
  have g2 : GoS pp p1 S σ G H S σ G1 H1 := g1.toS fun b z => z
  cases x with
  | true => exact iteT ⟨pp, p1, G1, S, r, ps', g1.cf, s.go g1, e, EndD.back g2 k, fun d c fs er ex od G' H' g' x => kx d c fs er ex od G' H' (g2.trans g') x⟩
  | false => exact iteF ⟨pp, p1, G1, S, r, ps', g1.cf, s.go g1, e, EndD.back g2 k, fun d c fs er ex od G' H' g' x => kx d c fs er ex od G' H' (g2.trans g') x⟩
def sExprX (g : EG) : SG := fun S ps => bindP (g S ps) fun d p => match excOf d with
  | some _ => some (.rt d, p)
  | none => some (.nx S, p)
theorem pdsx_expr {e : Expr} {g : EG} {pos : Pos} (h : PDX X (fun cls d _ H => E cls d H) e g) (hs : swapsWith e none pos.line X.env = pure false := by rfl) : PDSX X E (.Expr e pos) (sExprX g) :=
  ps_imp (ps_expr h hs) fun D σ H ⟨pp, ps, G, S, r, ps', c, s, e, k, kx⟩ => by
    obtain ⟨d, p1, e1, e⟩ := bindP_inv e
    split at e
    · next z ez =>
      cases e
      exact ⟨pp, ps, G, S, d, _, c, s, e1, fun v G' H' g' r' => (by rw [rv_noexc r'] at ez; cases ez), fun c fs ex od G' H' g' x => kx d c fs rfl ex od G' H' g'.toR x⟩
    · next ez =>
      cases e
      exact ⟨pp, ps, G, S, d, _, c, s, e1, fun v G' H' g' r' => k σ G' H' (g'.toS fun b z => z) (s.go g'), fun c fs ex => (by rw [ez] at ex; cases ex)⟩
def sRaise (c : Str) (f : List Str) (gs : AG) : SG := fun S ps => bindP (gs S ps) fun ds p => if ds.length == f.length then some (.rt (excD c (f.zip ds)), p) else none
theorem pdsx_raise1 {x f : Str} {a : Expr} {gs : AG} {p pos pos2 : Pos} {k : Nat} (hc : X.calm = true) (tk : TkX X E) (T : DX.Ex1 X.prog X.K X.mg x (TBL.C x) f) (kC : PySem.W.keepIn X.K (.ref (TBL.C x)) = true) (rs : Raises X (.ref (TBL.C x))) (hr : Rm k X.A) (ha : PDA X [a] gs) (hg : Gl X x) (hdb : (x == ("__debug__" : Str)) = false := by decide)
    (he : starEach (a :: []) X.env = (false, eval a X.env) :: starEach [] X.env := by rfl) (hpl : (backTo pos (starEach [] X.env)).any (·.1) = false := by rfl) : PDSX X E (.Raise (some (.Call (.Name x p) [a] [] pos)) none pos2) (sRaise x [f] gs) :=
  ps_imp (ps_raise hc tk (DX.pmk1 T kC rs hr.rm ha hg hdb he hpl)) fun D σ H ⟨pp, ps, G, S, r, ps', c, s, e, k, kx⟩ => by
    obtain ⟨ds, p1, e1, e⟩ := bindP_inv e
    split at e
    · next hl =>
      cases e
      refine ⟨pp, ps, G, S, ds, _, c, s, e1, fun vs G1 H1 g1 r1 => ?_⟩
      obtain ⟨d0, rfl⟩ : ∃ d0, ds = [d0] := by
        have hl := beq_iff_eq.mp hl
        match ds, hl with
        | [d0], _ => exact ⟨d0, rfl⟩
      obtain ⟨v, rfl, rv⟩ := rvl_one r1
      refine ⟨v, rfl, fun d hd => ?_⟩
      have gh : Go pp ps' [] G1 H1 G1 (upd H1 d (.xd [(f, v)])) := Go.hide g1.cf hd nt_xd
      exact kx _ x _ rfl (excOf_excD x _) (some d) G1 _ (g1.trans gh).toR (.inr ⟨d, _, rfl, upd_same, g1.cf.pne hd, rfl, .cons rv .nil, by simp⟩)
    · cases e
theorem for_read {K : PySem.W.Frag} {it : AG} {is : List Nat} {t : Tgt} {body : SG} (D : Ends) (σ : L2.St) (H : Hp) (h : TDSX K E (sFor it t body) D σ H) : tFor (tiW K it) (tgD K is t) (TDSX K E body) D σ H := by
  obtain ⟨pp, ps, G, S, r, ps', c, s, e, k, kx⟩ := h
  obtain ⟨ds, p1, e1, e⟩ := bindP_inv e
  refine ⟨pp, ps, G, S, ds, p1, c, s, e1, fun J G0 H0 g0 wk => ?_⟩
  have g0s : GoS pp p1 S σ G H S σ G0 H0 := g0.toS fun b z => z
  refine ⟨fun i m σ1 H1 => ∃ S1 q G1, GoS pp q S σ G H S1 σ1 G1 H1 ∧ Same G0 G1 ∧ Sl K pp G1 H1 S1 σ1 ∧ forGo t body (ds.drop i) S1 q = some (r, ps') ∧ m = ds.length - i ∧ i ≤ ds.length,
    ⟨ds.length, S, p1, G0, g0s, Same.refl G0, s.go g0, by rw [List.drop_zero]; exact e, by omega, by omega⟩, fun i m σ1 H1 hW => ?_⟩
  obtain ⟨S1, q, G1, ga, gb, s1, ef, em, hi⟩ := hW
  have up : Same G0 H1 := gb.trans ga.cf.ex
  by_cases hlt : i < ds.length
  · have ed : ds.drop i = ds[i] :: ds.drop (i + 1) := List.drop_eq_getElem_cons hlt
    rw [ed] at ef
    unfold forGo at ef
    cases et : t ds[i] S1 with
    | none =>
      rw [et] at ef
      cases ef
    | some S0 =>
      rw [et] at ef
      refine .inr ⟨wk.go i H1 up hlt, fun σ' H' => ∃ S2 q2 G2, GoS pp q2 S σ G H S2 σ' G2 H' ∧ Same G0 G2 ∧ Sl K pp G2 H' S2 σ' ∧ forGo t body (ds.drop (i + 1)) S2 q2 = some (r, ps'), fun σ' H' hn => ?_, fun x H' hy => ?_⟩
      · obtain ⟨S2, q2, G2, a1, a2, a3, a4⟩ := hn
        exact ⟨m - 1, by omega, S2, q2, G2, a1, a2, a3, a4, by omega, by omega⟩
      · obtain ⟨Gy, gy, rx⟩ := wk.yld i H1 x H' _ G1 q gb ga.cf (List.getElem?_eq_getElem hlt) hy
        have gaY := ga.trans (gy.toS fun b z => z)
        have gbY := gb.trans gy.gg
        have s1Y := s1.go gy
        refine ⟨pp, q, Gy, S1, _, S0, gaY.cf, s1Y, rx, et, fun σ2 s2 ho _ _ => ?_⟩
        have gc : GoS pp q S σ G H S0 σ2 Gy H' := gaY.trans (GoS.refl gaY.cf ho)
        dsimp only at ef
        split at ef
        · next S2 p2 eb => exact ⟨pp, q, Gy, S0, _, p2, gaY.cf, s2, eb, fun σ3 G3 H3 g3 s3 => ⟨S2, p2, G3, gc.trans g3, gbY.trans g3.gg, s3, ef⟩, fun d c fs er => by cases er⟩
        · next S2 p2 eb => exact ⟨pp, q, Gy, S0, _, p2, gaY.cf, s2, eb, fun σ3 G3 H3 g3 s3 => ⟨S2, p2, G3, gc.trans g3, gbY.trans g3.gg, s3, ef⟩, fun d c fs er => by cases er⟩
        · next S2 p2 eb =>
          cases ef
          exact ⟨pp, q, Gy, S0, _, _, gaY.cf, s2, eb, fun σ3 G3 H3 g3 s3 => k σ3 G3 H3 (gc.trans g3) s3, fun d c fs er => by cases er⟩
        · next d p2 eb =>
          cases ef
          exact ⟨pp, q, Gy, S0, _, _, gaY.cf, s2, eb, fun v G3 H3 g3 r3 => k v G3 H3 (gc.trans g3) r3, fun d' c fs er ex od G3 H3 g3 x3 => kx d' c fs er ex od G3 H3 (gc.trans g3) x3⟩
        · cases ef
  · have ei : i = ds.length := by omega
    subst ei
    rw [List.drop_length] at ef
    cases ef
    exact .inl ⟨wk.stop _ H1 up (Nat.le_refl _), k σ1 G1 H1 ga s1⟩
theorem pdsx_for {tg iter : Expr} {sb : List Stmt} {it : AG} {is : List Nat} {t : Tgt} {body : SG} {pos : Pos} (hp : PassesOwn (model X.prog X.w) X.A X.env X.xe) (hc : X.calm = true) (hi : PDI X tg iter it) (hg : PDG X tg is t) (hb : PDSsX X E sb body)
    (hs : ∀ x, foldedSetIterable iter X.env x = pure x := by intro _; rfl) : PDSX X E (.For tg iter sb [] pos) (sFor it t body) :=
  ps_imp (ps_for hp hc hi hg hb hs) for_read
end
end DL
set_option Elab.async false
set_option linter.all false
set_option maxRecDepth 100000
namespace DL
open PySem L2
variable [TBL]
def spX (K : PySem.W.Frag) (n : Nat) (fn : List PyData → Pt → Option (PyData × Pt)) : Sp := fun vs H Q E => ∃ (pp : PP) (ps : Pt) (G : Hp) (ds : List PyData) (d : PyData) (ps' : Pt), ds.length = n ∧ Cf pp ps G H ∧ RvL K pp G vs ds ∧ fn ds ps = some (d, ps') ∧
  (∀ v G' H', Go pp ps' [] G H G' H' → Rv K pp G' v d → Q v H') ∧
  ∀ c fs, excOf d = some (c, fs) → ∀ od G' H', Go pp ps' [] G H G' H' → XD K pp G' H' od fs → E (.ref (TBL.C c)) od H'
structure FnGX (P : Program) (w : World) (K : PySem.W.Frag) (mg : Str → Option Value) (base : Heap) (k : Nat) (f : Addr) (fd : FuncData) (ps : List Str) (sp : Sp) : Prop where
  len : ∀ vs H Q E, sp vs H Q E → vs.length = ps.length
  go : ∀ (A : Around) (out : List Env) (s : Shared) (H : Hp) (as : Args) (us : List Value) (vs : List V) (Q : VK) (E : XK), Rm k A → Env0 P w K mg base A out s H → BindsTo s fd as (ps.zip us) → Vals vs us → sp vs H Q E → codeAny (model P w) A (.call (.ref f) as) (CR (L2.CX P w) out P w H s Q E) s
abbrev FnX (P : Program) (w : World) (K : PySem.W.Frag) (mg : Str → Option Value) (base : Heap) (k : Nat) (f : Addr) (fd : FuncData) (ps : List Str) (fn : List PyData → Pt → Option (PyData × Pt)) : Prop := FnGX P w K mg base k f fd ps (spX K ps.length fn)
def noX (fn : List PyData → Pt → Option (PyData × Pt)) : List PyData → Pt → Option (PyData × Pt) := fun ds ps => match fn ds ps with
  | some (d, p) => if (excOf d).isSome then none else some (d, p)
  | none => none
theorem noX_inv {fn : List PyData → Pt → Option (PyData × Pt)} {ds : List PyData} {ps p : Pt} {d : PyData} (h : noX fn ds ps = some (d, p)) : fn ds ps = some (d, p) ∧ excOf d = none := by
  unfold noX at h
  split at h
  · next d' p' e =>
    split at h
    · cases h
    · next n =>
      cases h
      refine ⟨e, ?_⟩
      cases z : excOf d with
      | none => rfl
      | some _ =>
        rw [z] at n
        exact absurd rfl n
  · cases h
theorem FnGX.plain {P : Program} {w : World} {K : PySem.W.Frag} {mg : Str → Option Value} {base : Heap} {k : Nat} {f : Addr} {fd : FuncData} {ps : List Str} {fn : List PyData → Pt → Option (PyData × Pt)} (F : FnX P w K mg base k f fd ps fn) : FnD P w K mg base k f fd ps (noX fn) := by
  refine ⟨fun vs H Q E h => ?_, fun A out s H as us vs Q E r e0 hb rv h => ?_⟩
  · obtain ⟨pp, p, G, ds, d, p', hl, c, rr, e, q⟩ := h
    rw [rr.length]
    exact hl
  · obtain ⟨pp, p, G, ds, d, p', hl, c, rr, e, q⟩ := h
    obtain ⟨e1, e2⟩ := noX_inv e
    refine codeAny_mono (F.go A out s H as us vs Q (fun _ _ _ => False) r e0 hb rv ⟨pp, p, G, ds, d, p', hl, c, rr, e1, q, fun c fs ex => (by rw [e2] at ex; cases ex)⟩) fun res s' hq => ?_
    cases res with
    | error er =>
      obtain ⟨_, _, _, _, _, _, _, _, _, _, _, _, z⟩ := (show L2.CX P w out H s (fun _ _ _ => False) er s' from hq)
      exact z.elim
    | ok fl => cases fl <;> exact hq
section
variable {P : Program} {w : World} {K : PySem.W.Frag} {mg : Str → Option Value} {base : Heap}
theorem ok_gx {x qual : Str} {st : Stmt} {f : Addr} {fd : FuncData} {N ps : List Str} {k : Nat} {sp : Sp} (F : Fun K x qual st f fd) (S : FnScope N ps (defScope st)) (len : ∀ vs H Q E, sp vs H Q E → vs.length = ps.length)
    (hbd : ∀ (cdv : Value) (A : Around) (out : List Env) (s : Shared) (H : Hp) (vs : List V) (Q : VK) (E : XK), Rm k (A.deeper (PyProof.Rows.envOfC qual (defScope st) s.heap.objs.size f cdv)) → sp vs H Q E →
      ∃ t, PSs (cxOf (L2.CX P w) P w K mg base N qual (defScope st) f cdv A out s H E) (defBody st) t ∧ t { nx := fun _ H' => Q .non H', rt := Q } (start N vs) H) : FnGX P w K mg base (k + 1) f fd ps sp := by
  obtain ⟨oc, od, kV, doc, pm, an, cdv, ct, osl, rfl, lk, hcd⟩ := F.ex
  refine ⟨len, ?_⟩
  intro A out s H as us vs Q E hr e0 hb rv hsp
  have hin : K.In s.heap := e0.mod.kin.keeps fun b o z => (e0.bs b o z).1
  have hlim : s.heap.NoLimit := e0.mod.nolimit.keeps fun b o z => (e0.bs b o z).1
  have kd : ∀ y ∈ ps.zip us, (defScope st).names.lookup y.1 = some .local ∨ ((defScope st).names.lookup y.1 = some .cell ∧ ((cellsFrom (s.heap.objs.size + 1) (defScope st).names []).lookup y.1).isSome = true) := by
    rintro ⟨n, v⟩ hy
    rcases S.par n (List.of_mem_zip hy).1 with z | z
    · exact .inl z
    · exact .inr ⟨z, PySem.W.cellsFrom_some _ _ _ (.inl z)⟩
  apply codeAny_call_function hr.rm.depth (hin _ _ lk) rfl S.co S.gen rfl (PySem.W.codeRec_of hin hcd)
  apply hb
  apply wpAny_newFunctionEnv_cells S.kind kd
  intro env henv s1 xs
  subst henv
  refine ⟨hlim.keeps xs.toInCall.keep, codeAny_func ?_⟩
  obtain ⟨t, ht, hq⟩ := hbd cdv A out s H vs Q E (hr.dpr _) hsp
  have J := inv_start (CX := L2.CX P w) (E := E) (N := N) S hr.hd e0 (len _ _ _ _ hsp) rv xs
  refine wpAny_mono (ht.run [] s1 (start N vs) H _ J hq) (fun fl s' hs => ?_) fun e s' hs => hs
  cases fl with
  | ret u =>
    obtain ⟨v, σ1, H1, J1, r1, q1⟩ := hs
    exact ⟨v, H1, J1.os, J1.bare, J1.base, J1.hok, r1, q1⟩
  | next =>
    obtain ⟨σ1, H1, J1, q1⟩ := hs
    exact ⟨.non, H1, J1.os, J1.bare, J1.base, J1.hok, rfl, q1⟩
  | brk =>
    obtain ⟨_, _, _, q1⟩ := hs
    exact False.elim q1
  | cont =>
    obtain ⟨_, _, _, q1⟩ := hs
    exact False.elim q1
theorem fn_of_bodyX {x qual : Str} {st : Stmt} {f : Addr} {fd : FuncData} {N ps : List Str} {k : Nat} {g : SG} (F : Fun K x qual st f fd) (S : FnScope N ps (defScope st)) (hn : ps.length ≤ N.length)
    (hbody : ∀ (cdv : Value) (A : Around) (outer : List Env) (s : Shared) (H : Hp) (E : XK), Rm k (A.deeper (PyProof.Rows.envOfC qual (defScope st) s.heap.objs.size f cdv)) → TkX (cxOf (L2.CX P w) P w K mg base N qual (defScope st) f cdv A outer s H E) E →
      PassesOwn (model P w) (cxOf (L2.CX P w) P w K mg base N qual (defScope st) f cdv A outer s H E).A (cxOf (L2.CX P w) P w K mg base N qual (defScope st) f cdv A outer s H E).env (cxOf (L2.CX P w) P w K mg base N qual (defScope st) f cdv A outer s H E).xe →
      PDSsX (cxOf (L2.CX P w) P w K mg base N qual (defScope st) f cdv A outer s H E) E (defBody st) g) :
    FnX P w K mg base (k + 1) f fd ps (runF N.length g) := by
  refine ok_gx F S (fun vs H Q E h => ?_) (fun cdv A outer s H vs Q E hr h => ?_)
  · obtain ⟨pp, p, G, ds, d, p', hl, c, r, e, q⟩ := h
    rw [r.length]
    exact hl
  · obtain ⟨pp, p, G, ds, d, p', hl, c, r, e, q, qx⟩ := h
    refine ⟨_, hbody cdv A outer s H E hr (takes_of rfl rfl rfl rfl) (passes_of rfl), ?_⟩
    have hvl : vs.length ≤ N.length := by
      rw [r.length, hl]
      exact hn
    unfold runF at e
    split at e
    · next d' p1 eg =>
      cases e
      exact ⟨pp, p, G, _, _, _, c, sl_start r hvl, eg, fun v G' H' g' r' => q v G' H' (g'.toGo fun b => start_own) r', fun d c fs er ex od G' H' g' x => by
        cases er
        exact qx c fs ex od G' H' (g'.toGo fun b => start_own) x⟩
    · next S' p1 eg =>
      cases e
      exact ⟨pp, p, G, _, _, _, c, sl_start r hvl, eg, fun σ' G' H' g' s' => q _ G' H' (g'.toGo fun b => start_own) .non, fun d c fs er => by cases er⟩
    · cases e
end
section
variable {X : Cx} {W : WX} {E : XK}
theorem call_gx {k : Nat} {f : Addr} {fd : FuncData} {qs : List Str} {sp : Sp} (F : FnGX X.prog X.w X.K X.mg X.base k f fd qs sp) (hr : Rm k X.A) (tk : Takes X W) {pins : List (Addr × Obj)} {σ : L2.St} {H : Hp} {s : Shared} {Q : VK} {as : Args} {us : List Value} {vs : List V} (J : Inv X pins σ H s) (hb : BindsTo s fd as (qs.zip us)) (rv : Vals vs us) (h : sp vs H Q (WE W σ)) :
    wpAny (model X.prog X.w) X.A (call (.ref f) as.pos as.kw) (EP X pins σ Q) X.xe s := by
  refine wpAny_call (codeAny_mono (F.go X.A X.stack s H as us vs Q (WE W σ) hr J.env0 hb rv h) fun res s' hq => ?_)
  cases res with
  | error e => exact passAt tk σ pins H s e s' J hq
  | ok fl =>
    cases fl with
    | ret u => exact J.after hq
    | next => exact False.elim hq
    | brk => exact False.elim hq
    | cont => exact False.elim hq
theorem pdx_call {k : Nat} {f : Addr} {fd : FuncData} {qs : List Str} {fn : List PyData → Pt → Option (PyData × Pt)} {x : Str} {p pos : Pos} {e : Expr} {es : List Expr} {gs : AG} (F : FnX X.prog X.w X.K X.mg X.base k f fd qs fn) (hr : Rm k X.A) (tk : Takes X W) (hg : Gl X x) (hm : X.mg x = some (.ref f))
    (hk : PySem.W.keepIn X.K (.ref f) = true) (hb : Binds X.K fd qs []) (ha : PDA X (e :: es) gs) (hl : ∀ S ps ds p, gs S ps = some (ds, p) → ds.length = qs.length) (hdb : (x == ("__debug__" : Str)) = false := by decide)
    (he : starEach (e :: es) X.env = (false, eval e X.env) :: starEach es X.env := by rfl) (hpl : (backTo pos (starEach es X.env)).any (·.1) = false := by rfl) : PDX X W (.Call (.Name x p) (e :: es) [] pos) (eCall fn gs) := by
  constructor
  intro pins s σ H Q J h
  apply wpAny_Call_Name_kw
  apply ld_glob J hg hm (hd := hdb)
  obtain ⟨pp, ps, G, S, d, ps', c, sl, eg, k1, kx⟩ := h
  obtain ⟨ds, p1, e1, eg⟩ := bindP_inv eg
  refine PySem.W.callWith_K (h₀ := X.base) J.ok.mod.kin hk (thn (ha.run pos pins s σ H (fun vs H1 => spX X.K qs.length fn vs H1 Q (WE W σ)) J ⟨pp, ps, G, S, ds, p1, c, sl, e1, fun vs G1 H1 g1 r1 => ?_⟩) fun us s1 ⟨vs, H1, J1, rv, q⟩ => ⟨J1.kIn, ?_⟩) he hpl
  · exact ⟨pp, p1, G1, ds, d, ps', hl _ _ _ _ e1, g1.cf, r1, eg, fun v G2 H2 g2 r2 => k1 v G2 H2 (g1.trans g2) r2, fun c fs ex od G2 H2 g2 x2 => kx c fs ex od G2 H2 (g1.trans g2) x2⟩
  · have hlu : us.length = qs.length := by
      rw [← rv.length]
      exact F.len _ _ _ _ q
    have hbt := hb s1 us J1.kIn (by simpa using hlu)
    rw [List.append_nil] at hbt
    exact call_gx (as := ⟨us, []⟩) F hr tk J1 hbt rv q
end
end DL
set_option Elab.async false
set_option linter.all false
set_option maxRecDepth 100000
set_option maxHeartbeats 1000000
namespace DL
open PySem PySem.Spec PyProof.Rows L2
abbrev HdA := Value × Nat × (Addr → Value → Option Addr → TS)
def wManyA (K : PySem.W.Frag) (Wout : WX) (D : Ends) : List HdA → WX
  | [] => Wout
  | (c, i, ts) :: r => fun cls d σ H => ∃ b, PySem.W.exmOne K cls c = some b ∧
    (b = true → ∀ a, H a = none → ts a cls d { nx := fun σ' H' => D.nx (σ'.set i none) H', rt := D.rt, bk := fun σ' H' => D.bk (σ'.set i none) H', ct := fun σ' H' => D.ct (σ'.set i none) H' } (σ.set i (some (.ref a))) H) ∧ (b = false → wManyA K Wout D r cls d σ H)
inductive HdsA (X : Cx) : List ExceptHandler → List HdA → Prop
  | nil : HdsA X [] []
  | cons {x n : Str} {c : Value} {i : Nat} {ts : Addr → Value → Option Addr → TS} {b₀ : Stmt} {suite : List Stmt} {np pos' : Pos} {hds : List ExceptHandler} {l : List HdA} (hc : Names X x c) (hi : X.N[i]? = some n) (hln : X.env.kindOf n = some .local)
      (hsu : ∀ (a : Addr) (oe : Obj) (cls : Value) (d : Option Addr) (pn : List (Addr × Obj)), Zc cls d oe → (∃ vs, oe.data = .fields vs) → PSs (X.suite a ((a, oe) :: pn)) (b₀ :: suite) (ts a cls d)) (r : HdsA X hds l) :
      HdsA X (.ExceptHandler (some (.Name x np)) (some n) (b₀ :: suite) pos' :: hds) ((c, i, ts) :: l)
section
variable {X : Cx} {body : List Stmt} {h₀ : ExceptHandler} {hds : List ExceptHandler} {l : List HdA} {pos : Pos} {tb : WX → TS} {Wout : WX}
theorem ps_try_manyA (hs : X.stack = X.env :: X.outer) (hf : X.env.frame = some X.env.locals) (hN : X.N.Nodup) (tk : Takes X Wout)
    (hb : ∀ (W : WX) (pn : List (Addr × Obj)) (xe : Value → Shared → Prop), Takes (X.tr pn xe) W → PassesOwn (model X.prog X.w) X.A X.env xe → PSs (X.tr pn xe) body (tb W))
    (hh : HdsA X (h₀ :: hds) l) : PS X (.Try body (h₀ :: hds) [] [] pos) (fun D σ H => tb (wManyA X.K Wout D l) D σ H) := by
  refine ⟨fun pins s σ H D I h => ?_⟩
  have ok := I.ok
  have frm : X.A.frames = some (X.env :: X.outer) := by rw [ok.frames, hs]
  refine wpAny_Try_except ?_
  refine wpAny_mono ((hb (wManyA X.K Wout D l) (X.pn ++ pins) (fun e s₁ => wpAny (model X.prog X.w) X.A (noteFrame e X.env) (fun _ s₂ => wpAny (model X.prog X.w) X.A (setFlight e none) (fun _ s₃ =>
    wpAny (model X.prog X.w) X.A (handleBy e X.env (h₀ :: hds)) (SP X pins D) X.xe s₃) X.xe s₂) X.xe s₁) (fun u s' xx => ?_) PassesOwn.looking).run [] s σ H D (I.toTry _) h) (fun f s1 hsp => ?_) (fun e s1 he => he)
  · obtain ⟨a, B, sI, pins', σ', H', cls, d, rfl, J', nb, up, sky, na, os, ag, w⟩ := xx
    have J : Inv X pins σ' H' sI := J'.ofTry ok
    have sky' : Sky B (X.env :: X.outer) a (Zc cls d) X.env.locals s'.heap := by rw [← hs]; exact sky
    show wpAny (model X.prog X.w) X.A (noteFrame (.ref a) X.env) _ _ _
    refine Sky.land Zc.steady frm hf sky' fun h3 fl3 up3 => ?_
    have J3 : Inv X pins σ' H' { s' with heap := h3 } := J.landed nb fl3.1 (up.trans up3) os ag
    obtain ⟨oe3, vs3, he3, hz3, hd3⟩ := fl3.there
    have nfr : a ∉ frs (X.env :: X.outer) := fun hm => by
      obtain ⟨_, o', e', hnf⟩ := fl3.2.2.1.mem hm
      rw [he3] at e'
      cases e'
      exact hnf _ hd3
    have nL : a ≠ X.env.locals := fun z => nfr (List.mem_filterMap.mpr ⟨X.env, List.mem_cons_self, by rw [hf, z]⟩)
    have nF : a ∉ X.fs := fun hm => by
      obtain ⟨e, he, q⟩ := List.mem_filterMap.mp hm
      exact nfr (List.mem_filterMap.mpr ⟨e, List.mem_cons_of_mem _ he, q⟩)
    have S3 := J3.suite he3 hd3 na nL nF
    have go : ∀ {hds' : List ExceptHandler} {l' : List HdA}, HdsA X hds' l' → wManyA X.K Wout D l' cls d σ' H' → wpAny (model X.prog X.w) X.A (handleBy (.ref a) X.env hds') (SP X pins D) X.xe { s' with heap := h3 } := by
      intro hds' l' hk
      induction hk with
      | nil =>
        intro w
        refine wpAny_handleBy_nil ?_
        obtain ⟨k1, k2, k3, oe, vs, T, oT, ts', he, hz, hd, h1, hr⟩ := id fl3
        unfold PySem.passOn
        refine wpAny_bind (wpAny_field he hd h1 ?_)
        rw [if_neg (show ¬ ((Value.ref T == Value.none) = true) from by simp)]
        have fin : wpAny (model X.prog X.w) X.A (setFlight (.ref a) X.env.frame) (fun _ s4 => wpAny (model X.prog X.w) X.A (throw (.ref a) : Sem Flow) (SP X pins D) X.xe s4) X.xe { s' with heap := h3 } := by
          rw [hf]
          refine HandSPX.setFlight_upZ fl3 fun h4 hh4 up4 => wpAny_throw (tk _ _ ?_)
          exact ⟨a, B, sI, pins, σ', H', cls, d, rfl, J, nb, (up.trans up3).trans up4, .inr (.inr (by rw [hs]; exact hh4)), na, os, ag, w⟩
        first
          | exact wpAny_bind (wpAny_pure (wpAny_bind fin))
          | exact wpAny_bind fin
      | @cons x n c i ts b₀ suite np pos' hds2 l2 hc hi hln hsu r ih =>
        intro w
        obtain ⟨b, hb1, hyes, hno⟩ := w
        refine wpAny_handleBy_cons (codeAny_handlers_test ?_) (by intro q; cases q)
        have LT : PySem.W.Looks (model X.prog X.w) h3 (typeOf (.ref a)) cls := fun A Q E s k q => wpAny_typeOf_ref (k _ _ he3) (by rw [hz3.1]; exact q)
        have LM := PySem.W.exm_one (M := model X.prog X.w) (J3.kIn) LT hb1
        have test : ∀ {Q : Value → Shared → Prop} {E : Value → Shared → Prop}, Q c { s' with heap := h3 } → wpAny (model X.prog X.w) (X.A.mark (some (.ref a))) (eval (.Name x np) X.env) Q E { s' with heap := h3 } := fun {Q E} q => by
          obtain ⟨hg, hdbg, hm | ⟨hm, hv, hnn⟩⟩ := hc
          · exact ld_glob (X := X.suite a ((a, oe3) :: (X.pn ++ pins))) S3 hg hm q hdbg
          · exact ld_blt (X := X.suite a ((a, oe3) :: (X.pn ++ pins))) S3 hg hm hv q hnn hdbg
        refine test (LM.here ?_)
        cases b with
        | true =>
          refine codeAny_handlers_suite_as ?_
          refine HandSPX.lands_againZ fl3 fun h4 fl4 up4 => ?_
          have J4 : Inv X pins σ' H' { s' with heap := h4 } := J.landed nb fl4.1 ((up.trans up3).trans up4) os ag
          obtain ⟨oe4, vs4, he4, hz4, hd4⟩ := fl4.there
          have S4 := J4.suite he4 hd4 na nL nF
          refine store_ok (X := X.suite a ((a, oe4) :: (X.pn ++ pins))) (v := .ref a) S4 hN hi (.inl hln) rfl (fun s5 S5 => ?_) (.inr hln)
          refine wpAny_mono ((hsu a oe4 cls d (X.pn ++ pins) hz4 ⟨_, hd4⟩).run [] s5 _ H' _ S5 (hyes rfl a na)) (fun f s6 hsp => ?_) (fun _ _ z => False.elim z)
          have end_ : ∀ {σ6 : L2.St} {H6 : Hp} {Q : Shared → Prop}, Inv (X.suite a ((a, oe4) :: (X.pn ++ pins))) [] σ6 H6 s6 → (∀ s7, Inv X pins (σ6.set i none) H6 s7 → Q s7) →
              wpAny (model X.prog X.w) X.A (do bindName X.env n .none; unbindBehindTheSuite X.env n pos') (fun _ s7 => Q s7) X.xe s6 := fun {σ6 H6 Q} S6 hq => gone_ok (S6.unsuite ok) hN hi hln hq
          cases f with
          | next =>
            obtain ⟨σ6, H6, S6, q6⟩ := hsp
            exact end_ S6 fun s7 J7 => ⟨_, _, J7, q6⟩
          | brk =>
            obtain ⟨σ6, H6, S6, q6⟩ := hsp
            exact end_ S6 fun s7 J7 => ⟨_, _, J7, q6⟩
          | cont =>
            obtain ⟨σ6, H6, S6, q6⟩ := hsp
            exact end_ S6 fun s7 J7 => ⟨_, _, J7, q6⟩
          | ret u =>
            obtain ⟨v6, σ6, H6, S6, r6, q6⟩ := hsp
            exact end_ S6 fun s7 J7 => ⟨_, _, _, J7, r6, q6⟩
        | false =>
          show wpAny _ X.A (handleBy (.ref a) X.env hds2) _ _ _
          exact ih (hno rfl)
    exact go hh w
  · cases f with
    | next =>
      obtain ⟨σ', H', J', q⟩ := hsp
      exact wpAny_execs_nil ⟨σ', H', J'.ofTry ok, q⟩
    | brk =>
      obtain ⟨σ', H', J', q⟩ := hsp
      exact ⟨σ', H', J'.ofTry ok, q⟩
    | cont =>
      obtain ⟨σ', H', J', q⟩ := hsp
      exact ⟨σ', H', J'.ofTry ok, q⟩
    | ret u =>
      obtain ⟨v, σ', H', J', r, q⟩ := hsp
      exact ⟨v, σ', H', J'.ofTry ok, r, q⟩
end
end DL
namespace DL
open PySem L2
variable [TBL]
section
variable {X : Cx} {pins : List (Addr × Obj)} {σ : L2.St} {H : Hp} {s : Shared}
theorem act_D {CXg : CXT} {Eg : XK} {Ng : List Str} {qg : Str} {sg : Scope} {g f c' : Addr} {cdg pm ctv : Value} {params : Arguments} {body : Expr} {scope : Scope} {k i : Nat} {a : Str} {pn : List (Addr × Obj)} {xe : Value → Shared → Prop} {W : WX} {t : XK → TE} {p1 p2 : Pos}
    (I : Inv X pins σ H s) (L : LamX.LamS X.env.scope scope) (hf : s.heap.get? f = some (PySem.W.kla_obj "<lambda>" (X.env.qual ++ "<lambda>") params body scope (cloFrom X.env.cells scope.names []) pm c' ctv)) (hfn : H f = none) (hfr : f ∉ frs X.stack)
    (hbind : bindArgs (PySem.W.kla_fn "<lambda>" (X.env.qual ++ "<lambda>") params body scope (cloFrom X.env.cells scope.names []) pm (.ref c') ctv) ⟨[], []⟩ = pure [])
    (tk : Takes ((cxOf CXg X.prog X.w X.K X.mg X.base Ng qg sg g cdg X.A X.stack s H Eg).tr pn xe) W) (hr : Rm (k + 1) (X.A.deeper (PyProof.Rows.envOfC qg sg s.heap.objs.size g cdg)))
    (hbody : ∀ (A : Around) (outer : List Env) (s : Shared) (H : Hp) (E : XK), Rm k (A.deeper (LamX.lamEnv X scope s.heap.objs.size f c')) → PE (LamX.lamCx X A outer s H E scope f c') body (t E))
    (hN : Ng[i]? = some a) (hv : Vis sg a) (hd : (a == ("__debug__" : Str)) = false := by decide) (hcd : (a == ("__classdict__" : Str)) = false := by decide) :
    PE ((cxOf CXg X.prog X.w X.K X.mg X.base Ng qg sg g cdg X.A X.stack s H Eg).tr pn xe) (.Call (.Name a p1) [] [] p2)
      (fun σZ HZ Q => σZ[i]? = some (some (.ref f)) ∧ HZ c' = some (LamX.CodeO c' (X.env.qual ++ "<lambda>")) ∧ t (WE W σZ) σ HZ Q) := by
  refine ⟨fun pinsZ sZ σZ HZ Q IZ h => ?_⟩
  obtain ⟨hs, hc, ht⟩ := h
  refine wpAny_Call_Name_kw (thn ((pe_var (pos := p1) (i := i) hN hv hd hcd).run pinsZ sZ σZ HZ (fun v H1 => v = .ref f ∧ H1 = HZ) IZ ⟨.ref f, hs, rfl, rfl⟩) fun u s1 ⟨v, H1, I1, r1, ev, eH⟩ => ?_)
  subst ev
  rw [eH] at I1
  obtain rfl : u = Value.ref f := r1
  have of1 : s1.heap.get? f = some (PySem.W.kla_obj "<lambda>" (X.env.qual ++ "<lambda>") params body scope (cloFrom X.env.cells scope.names []) pm c' ctv) := I1.base.keep f _ hf hfn hfr (fun z => nomatch (show f ∈ ([] : List Addr) from z))
  refine PySem.W.callWith_F0 ⟨_, _, _, _, of1⟩ ?_
  have un : Un (frs X.stack) [] H HZ s.heap s1.heap := I1.base
  obtain ⟨⟨oc, vs, t0, hoc, hdc, hvc⟩, _, _⟩ := I1.hok c' _ hc
  have rc : codeAny (model X.prog X.w) (X.A.deeper (PyProof.Rows.envOfC qg sg s.heap.objs.size g cdg)) (.call (.ref f) ⟨[], []⟩) (CR (L2.CX X.prog X.w) (PyProof.Rows.envOfC qg sg s.heap.objs.size g cdg :: X.stack) X.prog X.w HZ s1 Q (WE W σZ)) s1 := by
    refine PySem.W.kla_callFunE hr.rm.depth of1 rfl L.co L.gen rfl ⟨c', oc, vs, t0, rfl, hoc, hdc, hvc⟩ ?_
    rw [hbind]
    refine wpAny_pure (wpAny_newFunctionEnv (fun y hy => (L.own y hy).2) (fun y hy => absurd hy (by simp)) (fun h₁ hns hsb => ⟨I1.nolimit.fresh _ hsb, ?_⟩) L.kind)
    show codeAny _ _ (.expr body (LamX.lamEnv X scope s1.heap.objs.size f c')) _ _
    have kp : ∀ b o, s1.heap.get? b = some o → h₁.get? b = some o := fun b o e => hsb.extBut b o (Nat.ne_of_lt (Heap.lt_size e)) (Heap.get?_push_of_some _ e)
    have J := LamX.lam_start2 (E := WE W σZ) (f := f) (c' := c') (tk := s1.toks + ([] : List (Str × Value)).length) I L I1.env0 hr.hd un hns kp
    refine PySem.W.kla_codeExpr (wpAny_mono ((hbody _ _ s1 HZ (WE W σZ) (hr.dpr _)).run [] _ _ HZ Q J ht) (fun v s' hq => ?_) fun e s' hq => hq)
    obtain ⟨w', H', J', rv, q⟩ := hq
    exact ⟨w', H', J'.os, J'.bare, J'.base, J'.hok, rv, q⟩
  refine wpAny_call (codeAny_mono rc fun r s' hq => ?_)
  cases r with
  | error e => exact passAt tk σZ pinsZ HZ s1 e s' I1 hq
  | ok fl =>
    cases fl with
    | ret u => exact I1.after hq
    | next => exact False.elim hq
    | brk => exact False.elim hq
    | cont => exact False.elim hq
end
def ThunkR (K : PySem.W.Frag) (pp : PP) (f : Addr) (Kp : Hp → Hp → Prop) (th : Pt → Option (PyData × Pt)) (W : WX) : TE := fun σ H Q => σ[0]? = some (some (.ref f)) ∧ ∃ (p : Pt) (G : Hp) (d : PyData) (p' : Pt), Cf pp p G H ∧ Kp G H ∧ th p = some (d, p') ∧
  (∀ v G' H', Go pp p' [] G H G' H' → Rv K pp G' v d → Q v H') ∧ ∀ c fs, excOf d = some (c, fs) → ∀ od G' H', Go pp p' [] G H G' H' → XD K pp G' H' od fs → W (.ref (TBL.C c)) od σ H'
abbrev cxT (P : Program) (w : World) (K : PySem.W.Frag) (mg : Str → Option Value) (base : Heap) (Ng : List Str) (x : Str) (st : Stmt) (g : Addr) (cdg : Value) (A : Around) (outer : List Env) (s : Shared) (H : Hp) : Cx := cxOf CX0 P w K mg base Ng x (defScope st) g cdg A outer s H E0
def ToldOk (P : Program) (w : World) (K : PySem.W.Frag) (mg : Str → Option Value) (base : Heap) (x : Str) (st : Stmt) (Ng : List Str) (a : Str) (k : Nat) (bg : List Stmt) (ft : (Pt → Option (PyData × Pt)) → Pt → Option (PyData × Pt)) : Prop :=
  ∀ (g : Addr) (cdg : Value) (A : Around) (outer : List Env) (s : Shared) (H : Hp) (Q : VK) (f : Addr) (pp : PP) (ps : Pt) (G : Hp) (th : Pt → Option (PyData × Pt)) (d : PyData) (ps' : Pt) (Kp : Hp → Hp → Prop),
    Rm (k + 1) (A.deeper (PyProof.Rows.envOfC x (defScope st) s.heap.objs.size g cdg)) →
    (∀ (W : WX) (pn : List (Addr × Obj)) (xe : Value → Shared → Prop) (p1 p2 : Pos), Takes ((cxT P w K mg base Ng x st g cdg A outer s H).tr pn xe) W → PE ((cxT P w K mg base Ng x st g cdg A outer s H).tr pn xe) (.Call (.Name a p1) [] [] p2) (ThunkR K pp f Kp th W)) →
    Cf pp ps G H → Kp G H → ft th ps = some (d, ps') → (∀ v G' H', Go pp ps' [] G H G' H' → Rv K pp G' v d → Q v H') →
    ∃ t, PSs (cxT P w K mg base Ng x st g cdg A outer s H) bg t ∧ t { nx := fun _ H' => Q .non H', rt := Q } (start Ng [.ref f]) H
def eTold (ft : (Pt → Option (PyData × Pt)) → Pt → Option (PyData × Pt)) (gb : EG) : EG := fun S ps => ft (fun p => gb S p) ps
section
variable {X : Cx}
theorem pd_told {x a : Str} {st : Stmt} {g c P : Addr} {fd : FuncData} {k : Nat} {Ng : List Str} {ft : (Pt → Option (PyData × Pt)) → Pt → Option (PyData × Pt)} {params : Arguments} {body : Expr} {scope : Scope} {gb : EG} {p lpos pos : Pos} (F : Fun X.K x x st g fd) (hg : Gl X x) (hm : X.mg x = some (.ref g)) (hb : L2.Binds X.K fd [a] []) (Sg : FnScope Ng [a] (defScope st)) (hNg : Ng[0]? = some a) (hva : Vis (defScope st) a)
    (hG : ToldOk X.prog X.w X.K X.mg X.base x st Ng a k (defBody st) ft)
    (TB : LamX.TabB X.base X.mg c P) (hcode : X.env.code = .ref c) (hmT : (P, X.env.qual ++ "<lambda>") ∈ TBL.T) (hu : ∀ p ∈ TBL.T, p.1 = P → p.2 = X.env.qual ++ "<lambda>") (hr : Rm (k + 2) X.A) (L : LamX.LamS X.env.scope scope) (hdef : defaultsOf params X.env = ([], []))
    (hbind : ∀ (q : Str) (cl : List (Str × Addr)) (pm cv ctv : Value), bindArgs (PySem.W.kla_fn "<lambda>" q params body scope cl pm cv ctv) ⟨[], []⟩ = pure [])
    (hbody : ∀ (A : Around) (outer : List Env) (s : Shared) (H : Hp) (E : XK) (f c' : Addr), Rm k (A.deeper (LamX.lamEnv X scope s.heap.objs.size f c')) → TkX (LamX.lamCx X A outer s H E scope f c') E → PDX (LamX.lamCx X A outer s H E scope f c') (fun cls d _ H => E cls d H) body gb)
    (hdb : (x == ("__debug__" : Str)) = false := by decide) (hd : (a == ("__debug__" : Str)) = false := by decide) (hcd : (a == ("__classdict__" : Str)) = false := by decide) :
    PD X (.Call (.Name x p) [.Lambda params body scope lpos] [] pos) (eTold ft gb) := by
  refine ⟨fun pins s σ H Q I ⟨pp, ps, G, S, d, ps', c0, sl, e, k0⟩ => ?_⟩
  obtain ⟨oc, od, kV, doc, pm, an, cdv, ct, osl, rfl, lk, hcg⟩ := F.ex
  refine wpAny_Call_Name_kw (ld_glob I hg hm ?_ hdb)
  refine PySem.W.callWith_K (h₀ := X.base) I.ok.mod.kin F.kp ?_ (by rfl) (by rfl)
  show wpAny _ _ (spliced ((false, eval (.Lambda params body scope lpos) X.env) :: backTo pos (starEach [] X.env))) _ _ s
  refine Calls.spliced_cons (lam_make3 I TB hcode hmT hu c0.tb hdef (L.has I.ok) fun f c' pm' ctv H2 s' I2 hext htab hf hfn hfr hco _ _ hnew htold => ?_)
  refine Calls.spliced_nil ⟨I2.kIn, ?_⟩
  have I1 := I.untab I2
  obtain ⟨g1, _⟩ := lam_go c0 hext htab hco hnew htold
  have hco' : untab H H2 c' = some (LamX.CodeO c' (X.env.qual ++ "<lambda>")) := untab_nt hco fun ps z => LamX.codeO_ne ps z
  have rc : codeAny (model X.prog X.w) X.A (.call (.ref g) ⟨[.ref f], []⟩) (CR CX0 X.stack X.prog X.w (untab H H2) s' Q E0) s' := by
    refine LamX.run_ofS (N := Ng) (ps := [a]) (us := [.ref f]) (vs := [.ref f]) lk hcg Sg hr.rm I1.env0 (hb s' [.ref f] I1.kIn rfl) (.cons rfl .nil) rfl fun _ => ?_
    have hr' : Rm (k + 1) (X.A.deeper (PyProof.Rows.envOfC x (defScope st) s'.heap.objs.size g cdv)) := hr.dpr _
    refine hG g cdv X.A X.stack s' (untab H H2) Q f pp ps _ (fun p => gb S p) d ps' (fun G1 H1 => Sl X.K pp G1 H1 S σ ∧ H1 c' = some (LamX.CodeO c' (X.env.qual ++ "<lambda>"))) hr' (fun W pn xe p1 p2 tk => ?_) g1.cf ⟨sl.go g1, hco'⟩ e (fun v G' H' g' r' => k0 v G' H' (g1.trans g') r')
    refine pe_imp (act_D (i := 0) (t := fun E => TDX X.K (fun cls d _ H => E cls d H) gb) I1 L hf (untab_none hfn) hfr (hbind _ _ _ _ _) tk hr' (fun A outer s H E hr2 => hbody A outer s H E f c' hr2 (takes_of rfl rfl rfl rfl)) hNg hva hd hcd) fun σZ HZ Q' hz => ?_
    obtain ⟨h1, p, G1, d1, p', c1, ⟨s1, hc1⟩, e1, q1, q2⟩ := hz
    exact ⟨h1, hc1, pp, p, G1, S, d1, p', c1, s1, e1, q1, q2⟩
  refine wpAny_call (codeAny_mono rc fun r s2 hq => ?_)
  cases r with
  | error e => exact (show False from hq).elim
  | ok fl =>
    cases fl with
    | ret u => exact I1.after hq
    | next => exact False.elim hq
    | brk => exact False.elim hq
    | cont => exact False.elim hq
end
end DL
set_option Elab.async false
set_option linter.all false
set_option maxRecDepth 100000
set_option maxHeartbeats 1000000
namespace DL
open PySem L2
variable [TBL]
abbrev HF := Str → List (Str × PyData) → Option PyData
def firstH (sub : Str → Str → Bool) : List (Str × HF) → Str → List (Str × PyData) → Option PyData
  | [], _, _ => none
  | (ci, h) :: r, c, fs => if sub c ci then h c fs else firstH sub r c fs
def TSu (K : PySem.W.Frag) (iy ie : Nat) (h : HF) (a : Addr) (cls : Value) (d : Option Addr) : TS := fun D σ H => ∃ (c : Str) (fs : List (Str × PyData)) (pp : PP) (ps : Pt) (G : Hp) (z : PyData), cls = .ref (TBL.C c) ∧ σ[ie]? = some (some (.ref a)) ∧ Cf pp ps G H ∧ XD K pp G H d fs ∧ h c fs = some z ∧
  ∀ v G' H', Go pp ps [] G H G' H' → Rv K pp G' v z → D.nx (σ.set iy (some v)) H'
abbrev SuOk (X : Cx) (iy ie : Nat) (h : HF) (suite : List Stmt) : Prop := ∀ (a : Addr) (oe : Obj) (cls : Value) (d : Option Addr) (pn : List (Addr × Obj)), Zc cls d oe → (∃ vs, oe.data = .fields vs) → PSs (X.suite a ((a, oe) :: pn)) suite (TSu X.K iy ie h a cls d)
section
variable {X : Cx}
theorem xd_look {K : PySem.W.Frag} {pp : PP} {G : Hp} {f : Str} : ∀ {fvs : List (Str × V)} {fs : List (Str × PyData)} {x : PyData}, fvs.map (·.1) = fs.map (·.1) → RvL K pp G (fvs.map (·.2)) (fs.map (·.2)) → fs.lookup f = some x → ∃ v, fvs.lookup f = some v ∧ Rv K pp G v x
  | [], [], _, _, _, e => by cases e
  | [], _ :: _, _, h, _, _ => by cases h
  | _ :: _, [], _, h, _, _ => by cases h
  | (n, v) :: fvs, (m, y) :: fs, x, h, r, e => by
    simp only [List.map_cons, List.cons.injEq] at h
    obtain ⟨rfl, h⟩ := h
    cases r with
    | cons r1 r2 =>
      rw [List.lookup_cons] at e ⊢
      split at e
      · next q =>
        cases e
        exact ⟨v, rfl, r1⟩
      · next q =>
        exact xd_look h r2 e
theorem two_size (v w : V) : [v, w].length ≤ sizeLine := by
  rw [sizeLine_eq]
  exact (by decide : 2 ≤ 16777216)
inductive HdsF (X : Cx) (iy ie : Nat) (n : Str) : List ExceptHandler → List (Str × HF) → Prop
  | nil : HdsF X iy ie n [] []
  | cons {ci : Str} {h : HF} {b₀ : Stmt} {suite : List Stmt} {np pos' : Pos} {hds : List ExceptHandler} {l : List (Str × HF)} (hc : Names X ci (.ref (TBL.C ci))) (hsu : SuOk X iy ie h (b₀ :: suite)) (r : HdsF X iy ie n hds l) :
      HdsF X iy ie n (.ExceptHandler (some (.Name ci np)) (some n) (b₀ :: suite) pos' :: hds) ((ci, h) :: l)
theorem HdsF.toA {iy ie : Nat} {n : Str} (hie : X.N[ie]? = some n) (hln : X.env.kindOf n = some .local) : ∀ {hds : List ExceptHandler} {l : List (Str × HF)}, HdsF X iy ie n hds l → HdsA X hds (l.map fun p => (.ref (TBL.C p.1), ie, TSu X.K iy ie p.2))
  | _, _, .nil => .nil
  | _, _, .cons hc hsu r => .cons hc hie hln hsu (HdsF.toA hie hln r)
end
end DL
set_option Elab.async false
set_option linter.all false
set_option maxRecDepth 100000
namespace DL
open PySem L2 PyProof.Rows
section
variable {P : Program} {w : World}
end
section
variable {P : Program} {w : World} {A : Around} {E : Value → Shared → Prop} {s : Shared} {a : Addr} {zs : List Str}
end
section
variable {prog : Program} {w : World} {A : Around} {R : Result → Shared → Prop} {J : Addr} {fp wr : List Addr} {GG : Array GenState → Array GenState → Prop} {n : Nat} {PP : Nat → Value → Prop} {St : Nat → Shared → Prop}
end
section
variable {prog : Program} {w : World} {A : Around} {E : Value → Shared → Prop} {s : Shared}
end
end DL
set_option Elab.async false
set_option linter.all false
set_option maxRecDepth 100000
set_option maxHeartbeats 1000000
namespace DL
open PySem L2 PyProof.Rows
variable [TBL]
section
variable {X : Cx}
end
end DL
set_option Elab.async false
set_option linter.all false
set_option maxRecDepth 100000
set_option maxHeartbeats 1000000
namespace DL
open PySem PySem.SeqAt
open AutoSeq1 (wpAny_loadPart')
open MeetsSeq MeetsSeq2 MeetsSeq3
section
variable {prog : Program} {w : World}
end
end DL
namespace DL
open PySem L2
variable [TBL]
section
variable {X : Cx}
end
end DL
set_option Elab.async false
set_option linter.all false
set_option maxRecDepth 100000
namespace DL
open PySem L2
variable [TBL]
def drawOkW (m : Int) (ps : Pt) : Bool := decide (0 < m) && decide (m < 1606938044258990275541962092341162602522202993782792835301376) && decide (0 ≤ ps.2.1) && decide (ps.2.1 < 2147483648)
def drawFW : List PyData → Pt → Option (PyData × Pt)
  | [d, .int m], ps => if isPot d && drawOkW m ps then some (.int (drawV m ps), drawS m ps) else none
  | _, _ => none
theorem drawFW_inv {ds : List PyData} {ps : Pt} {z : PyData × Pt} (h : drawFW ds ps = some z) : ∃ m, ds = [potD, .int m] ∧ drawOkW m ps = true ∧ z = (.int (drawV m ps), drawS m ps) := by
  match ds, h with
  | [d, .int m], h =>
    have h' : (if isPot d && drawOkW m ps then some (PyData.int (drawV m ps), drawS m ps) else none) = some z := h
    split at h'
    · next hc =>
      rw [Bool.and_eq_true] at hc
      rw [isPot_eq hc.1]
      exact ⟨m, rfl, hc.2, (Option.some.inj h').symm⟩
    · cases h'
theorem divp_w {i m : Int} (m0 : 0 < m) (m1 : m < 1606938044258990275541962092341162602522202993782792835301376) : CDivP i m := by
  refine ⟨m0, PyProof.noPylong_of_log2 ?_⟩
  refine Nat.lt_of_lt_of_le (PySem.Flt.log2_lt_of (k := 200) (by decide) ?_) (by decide)
  have e : (2 : Nat) ^ 200 = 1606938044258990275541962092341162602522202993782792835301376 := by decide +kernel
  rw [e]
  omega
end DL
set_option Elab.async false
set_option linter.all false
set_option maxRecDepth 100000
set_option maxHeartbeats 2000000
namespace DL
open PySem L2
variable [TBL]
section
variable {X : Cx}
theorem cd_reprS (hgd : X.A.guards = some []) (hun : X.A.units + 200 < cLine) (hsys : ∃ o, X.base.get? sysModules = some o) : CallR X (.builtin "repr") (rDL X.K (one reprD)) := by
  intro pins s σ H vs us Q I rs ⟨pp, ps, G, xs, d, c, r, e, kk⟩
  obtain ⟨x, ex, e1⟩ := one_inv e
  subst ex
  clear e
  obtain ⟨v, rfl, r1⟩ := rvl_one r
  obtain ⟨hk, rfl⟩ := ite_inv e1
  unfold reprOk at hk
  rw [Bool.and_eq_true, Bool.and_eq_true, Bool.and_eq_true, Bool.and_eq_true] at hk
  obtain ⟨⟨⟨⟨k1, k2⟩, k3⟩, k4⟩, k5⟩ := hk
  obtain ⟨o, ho⟩ := hsys
  have hs : H sysModules = none := (I.bs _ _ ho).2
  cases rs with
  | cons u1 u2 =>
    cases u2
    obtain ⟨as, hrd, hns⟩ := Rv.reads I c.ex hs x v _ k2 r1 u1
    have hv : ∃ a, v = .ref a := by
      cases x with
      | list l => obtain ⟨a, _, z, _⟩ := rv_lst r1; exact ⟨a, z⟩
      | tuple l => obtain ⟨a, _, z, _⟩ := rv_tup r1; exact ⟨a, z⟩
      | dict l => cases r1 with
        | pot q => exact ⟨_, rfl⟩
        | lef q => exact ⟨_, rfl⟩
        | slf q => exact ⟨_, rfl⟩
        | obj _ _ => exact ⟨_, rfl⟩
        | lam _ _ _ => exact ⟨_, rfl⟩
        | clo _ _ _ _ _ _ => exact ⟨_, rfl⟩
        | exv _ _ => exact ⟨_, rfl⟩
        | dkx _ _ _ => exact ⟨_, rfl⟩
        | dct _ _ => exact ⟨_, rfl⟩
        | pr _ _ _ => exact ⟨_, rfl⟩
      | _ => cases k1
    obtain ⟨a, rfl⟩ := hv
    cases u1
    have hd : x.depth ≤ 100 := of_decide_eq_true k4
    have hz : x.shown.length ≤ sizeLine := by
      rw [sizeLine_eq]
      exact of_decide_eq_true k5
    refine repr_of_reads' hrd k3 (fun _ => hns) hgd (by omega) (fun _ _ z => z) (fun h' t tk hkp => ?_) hz
    exact ⟨.str x.shown, H, I.kept hkp, ⟨t, rfl⟩, kk _ G H (Go.refl c) (.str _)⟩
theorem rep2_end {K : PySem.W.Frag} {pp : PP} {ps : Pt} {G H : Hp} {tag : Str} {v : V} {x z : PyData} {Q : VK} (c : Cf pp ps G H) (r : Rv K pp G v x) (e : reprD (.list [.str tag, x]) = some z) (k : ∀ v G' H', Go pp ps [] G H G' H' → Rv K pp G' v z → Q v H') : ∀ p, H p = none → rDL K (one reprD) [.ref p] (upd H p (.lst [.str tag, v])) Q := fun p hp => by
  have gl : Go pp ps [] G H (upd G p (.lst [.str tag, v])) (upd H p (.lst [.str tag, v])) := Go.lay c hp
  exact ⟨pp, ps, _, [.list [.str tag, x]], z, gl.cf, .cons (.lst (.inl upd_same) (.cons (.str tag) (.cons (Rv.mono gl.gg _ _ r) .nil))) .nil, e, fun v G' H' g' r' => k v G' H' (gl.trans g') r'⟩
def TSuR (K : PySem.W.Frag) (ie : Nat) (h : HF) (a : Addr) (cls : Value) (d : Option Addr) : TS := fun D σ H => ∃ (c : Str) (fs : List (Str × PyData)) (pp : PP) (ps : Pt) (G : Hp) (z : PyData), cls = .ref (TBL.C c) ∧ σ[ie]? = some (some (.ref a)) ∧ Cf pp ps G H ∧ XD K pp G H d fs ∧ h c fs = some z ∧
  ∀ v G' H', Go pp ps [] G H G' H' → Rv K pp G' v z → D.rt v H'
abbrev SuOkR (X : Cx) (ie : Nat) (h : HF) (suite : List Stmt) : Prop := ∀ (a : Addr) (oe : Obj) (cls : Value) (d : Option Addr) (pn : List (Addr × Obj)), Zc cls d oe → (∃ vs, oe.data = .fields vs) → PSs (X.suite a ((a, oe) :: pn)) suite (TSuR X.K ie h a cls d)
def hRep (c0 tag f : Str) : HF := fun c fs => if c = c0 then (fs.lookup f).bind fun x => reprD (.list [.str tag, x]) else none
theorem su_rep {c0 tag f n : Str} {ie : Nat} {p0 p1 p2 p3 p4 p5 pos : Pos} {j : Nat} (T : XfC X.K (TBL.C c0)) (hno : PySem.W.findIn X.K (.ref (TBL.C c0)) f = some none) (hgd : X.A.guards = some []) (hun : X.A.units + 200 < cLine) (hsys : ∃ o, X.base.get? sysModules = some o) (hgr : Gl X "repr") (hmr : X.mg "repr" = none) (hie : X.N[ie]? = some n) (hn : X.env.scope.names.lookup n = some .local)
    (hd : (n == ("__debug__" : Str)) = false := by decide) (hcd : (n == ("__classdict__" : Str)) = false := by decide)
    (hb : attributeBase (.Name n p2) f X.env (eval (.Name n p2) X.env) = eval (.Name n p2) X.env := by rfl)
    (hs1 : starEach [.Constant (.str tag) j p1, .Attribute (.Name n p2) f p3] X.env = (false, eval (.Constant (.str tag) j p1) X.env) :: starEach [.Attribute (.Name n p2) f p3] X.env := by rfl) (hs2 : starEach [.Attribute (.Name n p2) f p3] X.env = (false, eval (.Attribute (.Name n p2) f p3) X.env) :: starEach [] X.env := by rfl)
    (hs3 : starEach [.List [.Constant (.str tag) j p1, .Attribute (.Name n p2) f p3] p4] X.env = (false, eval (.List [.Constant (.str tag) j p1, .Attribute (.Name n p2) f p3] p4) X.env) :: starEach [] X.env := by rfl) (hpl : (backTo p5 (starEach [] X.env)).any (·.1) = false := by rfl) :
    SuOkR X ie (hRep c0 tag f) [.Return (some (.Call (.Name "repr" p0) [.List [.Constant (.str tag) j p1, .Attribute (.Name n p2) f p3] p4] [] p5)) pos] := fun a oe cls d pn hz hf => by
  refine pss_imp (pss_one (ps_ret (pe_callB (cd_reprS (X := X.suite a ((a, oe) :: pn)) hgd hun hsys) (show Gl (X.suite a ((a, oe) :: pn)) "repr" from hgr) hmr (by decide +kernel) (pa_cons (pe_lst (pa_cons pe_str (pa_cons (pe_xf (X := X) (a := a) (cls := cls) (d := d) (pn := pn) T hno hz hf (pe_var (X := X.suite a ((a, oe) :: pn)) (i := ie) hie (.inl hn) hd hcd) hb) pa_nil hs2) hs1)) pa_nil hs3) (by decide) (by decide) hs3 hpl))) fun D σ H ⟨c, fs, pp, ps, G, z, ec, hσ, cf, xd, e, k⟩ => ?_
  unfold hRep at e
  split at e
  · next ecc =>
    subst ecc
    obtain ⟨x, ex, e⟩ := Option.bind_eq_some_iff.mp e
    rcases xd with ⟨rfl, _⟩ | ⟨dd, fvs, ed, hdd, np, hn', r, ne⟩
    · cases ex
    · obtain ⟨v, hv, rv⟩ := xd_look hn' r ex
      exact ⟨_, hσ, rfl, ec, dd, fvs, v, ed, hdd, hv, two_size _ _, rep2_end (Q := D.rt) cf rv e k⟩
  · cases e
inductive HdsR (X : Cx) (ie : Nat) (n : Str) : List ExceptHandler → List (Str × HF) → Prop
  | nil : HdsR X ie n [] []
  | cons {ci : Str} {h : HF} {b₀ : Stmt} {suite : List Stmt} {np pos' : Pos} {hds : List ExceptHandler} {l : List (Str × HF)} (hc : Names X ci (.ref (TBL.C ci))) (hsu : SuOkR X ie h (b₀ :: suite)) (r : HdsR X ie n hds l) :
      HdsR X ie n (.ExceptHandler (some (.Name ci np)) (some n) (b₀ :: suite) pos' :: hds) ((ci, h) :: l)
theorem HdsR.toA {ie : Nat} {n : Str} (hie : X.N[ie]? = some n) (hln : X.env.kindOf n = some .local) : ∀ {hds : List ExceptHandler} {l : List (Str × HF)}, HdsR X ie n hds l → HdsA X hds (l.map fun p => (.ref (TBL.C p.1), ie, TSuR X.K ie p.2))
  | _, _, .nil => .nil
  | _, _, .cons hc hsu r => .cons hc hie hln hsu (HdsR.toA hie hln r)
end
theorem first_wishR {K : PySem.W.Frag} {sub : Str → Str → Bool} {ie : Nat} {D : Ends} {c : Str} {fs : List (Str × PyData)} {pp : PP} {ps : Pt} {G H : Hp} {od : Option Addr} {σ : L2.St} {z : PyData} {Wout : WX} (hlt : ie < σ.length) (cf : Cf pp ps G H) (xd : XD K pp G H od fs)
    (k : ∀ v G' H', Go pp ps [] G H G' H' → Rv K pp G' v z → D.rt v H') : ∀ (hl : List (Str × HF)), (∀ q ∈ hl, PySem.W.exmOne K (.ref (TBL.C c)) (.ref (TBL.C q.1)) = some (sub c q.1)) → firstH sub hl c fs = some z →
      wManyA K Wout D (hl.map fun p => (.ref (TBL.C p.1), ie, TSuR K ie p.2)) (.ref (TBL.C c)) od σ H
  | [], _, e => by cases e
  | (ci, h) :: r, hx, e => by
    refine ⟨sub c ci, hx _ List.mem_cons_self, fun hb a ha => ?_, fun hb => ?_⟩
    · unfold firstH at e
      rw [hb, if_pos rfl] at e
      refine ⟨c, fs, pp, ps, G, z, rfl, ?_, cf, xd, e, fun v G' H' g' r' => k v G' H' g' r'⟩
      rw [List.getElem?_set, if_pos rfl, if_pos hlt]
    · unfold firstH at e
      rw [hb, if_neg Bool.false_ne_true] at e
      exact first_wishR hlt cf xd k r (fun q hq => hx q (List.mem_cons_of_mem _ hq)) e
end DL
set_option Elab.async false
set_option linter.all false
set_option maxRecDepth 100000
set_option maxHeartbeats 2000000
namespace DL
open PySem L2
section
variable {prog : Program} {w : World} {A : Around} {E : Value → Shared → Prop} {s : Shared}
end
section
variable {X : Cx}
end
section
variable [TBL] {X : Cx}
end
end DL
set_option Elab.async false
set_option linter.all false
set_option maxRecDepth 100000
set_option maxHeartbeats 2000000
namespace DL
open PySem L2
variable [TBL]
section
variable {X : Cx}
def TDL (K : PySem.W.Frag) (g : AG) : TE := fun σ H Q => ∃ (pp : PP) (ps : Pt) (G : Hp) (S : Sd) (ds : List PyData) (ps' : Pt), Cf pp ps G H ∧ Sl K pp G H S σ ∧ g S ps = some (ds, ps') ∧
  ∀ p us G' H', Go pp ps' [] G H G' H' → Rd H' p (.lst us) → pp.no p → RvL K pp G' us ds → Q (.ref p) H'
abbrev PDL (X : Cx) (e : Expr) (g : AG) : Prop := PE X e (TDL X.K g)
theorem pdl_new {e : Expr} {g : AG} (h : PDN X e g) : PDL X e g := pe_imp h fun σ H Q ⟨pp, ps, G, S, ds, ps', c, s, e, k⟩ =>
  ⟨pp, ps, G, S, ds, ps', c, s, e, fun p us G1 H1 g1 h0 hG hp r => k p us G1 H1 g1 (.inl hp) (c.pne h0) r⟩
def aOwn (i : Nat) : AG := fun S ps => match S[i]? with
  | some (.own (.list ds)) => some (ds, ps)
  | _ => none
theorem pdl_own (i : Nat) {x : Str} {pos : Pos} (hN : X.N[i]? = some x := by rfl) (hv : Vis X.env.scope x := by first | exact Or.inl rfl | exact Or.inr (Or.inl rfl) | exact Or.inr (Or.inr rfl))
    (hd : (x == ("__debug__" : Str)) = false := by decide) (hcd : (x == ("__classdict__" : Str)) = false := by decide) : PDL X (.Name x pos) (aOwn i) :=
  pe_imp (pe_var hN hv hd hcd) fun σ H Q ⟨pp, ps, G, S, ds, ps', c, s, e, k⟩ => by
    unfold aOwn at e
    split at e
    · next es eo =>
      cases e
      obtain ⟨p, ob, hσ, hp, hGp, np, rvo⟩ := s.own eo
      obtain ⟨vs, rfl, rv⟩ := rvo.lst
      exact ⟨.ref p, hσ, k p vs G H (Go.refl c) (.inl hp) np rv⟩
    · cases e
theorem Rd.go {pp : PP} {ps : Pt} {G H G' H' : Hp} {p : Addr} {us : List V} (h : Rd H p (.lst us)) (np : pp.no p) (g : Go pp ps [] G H G' H') : Rd H' p (.lst us) := by
  rcases h with h | ⟨o, h⟩
  · exact .inl (g.keep p _ h np (by simp) nt_lst)
  · exact .inr ⟨o, g.keep p _ h np (by simp) nt_frz⟩
def aCat (ga gb : AG) : AG := fun S ps => bindP (ga S ps) fun x p => bindP (gb S p) fun y p1 => if decide (x.length + y.length ≤ 16777216) then some (x ++ y, p1) else none
def rCatR : R2 := fun x y H Q => ∃ l b xs zs, x = .ref l ∧ y = .ref b ∧ Rd H l (.lst xs) ∧ Rd H b (.lst zs) ∧ xs.length + zs.length ≤ sizeLine ∧ ∀ p, H p = none → Q (.ref p) (upd H p (.lst (xs ++ zs)))
theorem op_catR : OpR X (binaryOp .Add) rCatR := by
  intro pins s σ H x y v u Q I rx ry h
  obtain ⟨l, b, xs, zs, rfl, rfl, hH, hB, hz, q⟩ := h
  cases rx
  cases ry
  obtain ⟨z, its, n, r, e1⟩ := hH.ok I.hok
  obtain ⟨z2, its2, n2, r2, e2⟩ := hB.ok I.hok
  have hl := r.length
  have hl2 := r2.length
  refine PySem.P.add_list e1 e2 ?_ (by rw [List.size_toArray, List.size_toArray]; omega)
  have ea : its.toArray ++ its2.toArray = (its ++ its2).toArray := by simp
  rw [ea]
  exact ⟨.ref _, _, I.lnew (t' := s.toks) (r.append r2) (by rw [List.length_append]; omega), rfl, q _ I.fresh⟩
theorem pdn_cat {a b : Expr} {ga gb : AG} {pos : Pos} (ha : PDL X a ga) (hb : PDL X b gb) : PDN X (.BinOp a .Add b pos) (aCat ga gb) := pe_imp (pe_op op_catR ha hb) fun σ H Q ⟨pp, ps, G, S, d, ps', c, s, e, k⟩ => by
  obtain ⟨ds, p1, e1, e⟩ := bindP_inv e
  obtain ⟨es, p2, e2, e⟩ := bindP_inv e
  obtain ⟨hf, e⟩ := ite_inv e
  cases e
  refine ⟨pp, ps, G, S, ds, p1, c, s, e1, fun p us G1 H1 g1 hp np r1 => ⟨pp, p1, G1, S, es, _, g1.cf, s.go g1, e2, fun q ws G2 H2 g2 hq nq r2 => ?_⟩⟩
  refine ⟨p, q, us, ws, rfl, rfl, Rd.go hp np g2, hq, by rw [r1.length, r2.length, sizeLine_eq]; exact of_decide_eq_true hf, fun t ht => ?_⟩
  have gh : Go pp _ [] G2 H2 G2 (upd H2 t (.lst (us ++ ws))) := Go.hide g2.cf ht
  exact k t _ G2 _ ((g1.trans g2).trans gh) ((g1.trans g2).none_of ht) (g2.cf.ex.free ht) upd_same ((RvL.mono g2.gg _ _ r1).app r2)
end
end DL
set_option Elab.async false
set_option linter.all false
set_option maxRecDepth 100000
set_option maxHeartbeats 2000000
namespace DL
open PySem L2
variable [TBL]
section
variable {X : Cx}
theorem Go.bumpO {pp : PP} {q : Pt} {G0 H0 G1 H1 : Hp} {D : Addr} {o o0 : HO} (nt : NT o) (hD : H1 D = some o0) (hb : PlB o0 = true) (g : Go pp q [] G0 H0 G1 H1) (h0 : H0 D = none) (h1 : G1 D = none) (hp : pp.no D) : Go pp q [] G0 H0 G1 (upd H1 D o) := by
  refine ⟨g.gg, ⟨fun b x e => ?_, fun i a ha => ⟨(g.cf.pot i a ha).1, ?_⟩, g.cf.pnd, tab_upd hD hb g.cf.tb, g.cf.vt, ot_upd nt g.cf.ot⟩, g.fresh, fun b x e hb ho nt => ?_, fun b e => ?_⟩
  · rw [upd_ne (ne_of_none e h1)]
    exact g.cf.ex b x e
  · have hne : a ≠ D := fun z => hp i (z ▸ ha)
    rw [upd_ne hne]
    exact (g.cf.pot i a ha).2
  · rw [upd_ne (ne_of_none e h0)]
    exact g.keep b x e hb ho nt
  · by_cases hb : b = D
    · subst hb
      exact h0
    · rw [upd_ne hb] at e
      exact g.there b e
def TDK (K : PySem.W.Frag) (g : Sd → Pt → Option (List (PyData × PyData) × Pt)) : TE := fun σ H Q => ∃ (pp : PP) (ps : Pt) (G : Hp) (S : Sd) (es : List (PyData × PyData)) (ps' : Pt), Cf pp ps G H ∧ Sl K pp G H S σ ∧ g S ps = some (es, ps') ∧
  ∀ p kvs G' H', Go pp ps' [] G H G' H' → H p = none → G' p = none → H' p = some (.dK kvs) → RvK K pp G' kvs es → Q (.ref p) H'
abbrev PDE (X : Cx) (e : Expr) (g : Sd → Pt → Option (List (PyData × PyData) × Pt)) : Prop := PE X e (TDK X.K g)
inductive PDP (X : Cx) (pos : Pos) : List (Option Expr) → List Expr → List Str → AG → Prop
  | nil : PDP X pos [] [] [] aNil
  | cons {x : Str} {j : Nat} {kp : Pos} {v : Expr} {ks : List (Option Expr)} {vs : List Expr} {xs : List Str} {g : EG} {gs : AG} : PD X v g → PDP X pos ks vs xs gs → PDP X pos (some (.Constant (.str x) j kp) :: ks) (v :: vs) (x :: xs) (aCons g gs)
theorem pdp_pps {pos : Pos} {ks : List (Option Expr)} {vs : List Expr} {xs : List Str} {gs : AG} (h : PDP X pos ks vs xs gs) : ∃ trs, PPs X pos ks vs trs ∧ ks.all (·.isSome) = true ∧ ks.length = vs.length ∧ ks.length = xs.length ∧
    ∀ (σ : L2.St) (H : Hp) (R : List (V × V) → Hp → Prop) (pp : PP) (ps : Pt) (G : Hp) (S : Sd) (ds : List PyData) (ps' : Pt), Cf pp ps G H → Sl X.K pp G H S σ → gs S ps = some (ds, ps') →
      (∀ ws G' H', Go pp ps' [] G H G' H' → RvL X.K pp G' ws ds → ws.length = xs.length → R ((xs.map V.str).zip ws) H') → tPairs trs σ H R := by
  induction h with
  | nil =>
    refine ⟨[], pps_nil, rfl, rfl, rfl, fun σ H R pp ps G S ds ps' c s e k => ?_⟩
    cases e
    exact k [] G H (Go.refl c) .nil rfl
  | @cons x j kp v ks vs xs g gs hv hr ih =>
    obtain ⟨trs, h1, h2, h3, h4, h5⟩ := ih
    refine ⟨_, pps_cons pe_str hv h1, by simpa using h2, by simpa using h3, by simpa using h4, fun σ H R pp ps G S ds ps' c s e k => ?_⟩
    obtain ⟨d, p1, e1, e⟩ := bindP_inv e
    obtain ⟨r, p2, e2, e⟩ := bindP_inv e
    cases e
    refine ⟨pp, ps, G, S, d, p1, c, s, e1, fun w G1 H1 g1 r1 => ?_⟩
    refine h5 σ H1 _ pp p1 G1 S r _ g1.cf (s.go g1) e2 fun ws G2 H2 g2 r2 hl => ?_
    exact k (w :: ws) G2 H2 (g1.trans g2) (.cons (Rv.mono g2.gg _ _ r1) r2) (by simpa using hl)
def dispE (xs : List Str) (ds : List PyData) : List (PyData × PyData) := (xs.zip ds).foldl (fun acc kd => putE acc (.inr kd.1) kd.2) []
theorem rvk_disp {K : PySem.W.Frag} {pp : PP} {G : Hp} : ∀ (xs : List Str) {ws : List V} {ds : List PyData} {kvs : List (Key × V)} {es : List (PyData × PyData)}, RvL K pp G ws ds → RvK K pp G kvs es →
    RvK K pp G (mergeK kvs (((xs.zip ws).map fun p => ((.inr p.1 : Key), p.2)))) ((xs.zip ds).foldl (fun acc kd => putE acc (.inr kd.1) kd.2) es)
  | [], _, _, _, _, _, h => h
  | _ :: _, _, _, _, _, .nil, h => h
  | x :: xs, _, _, kvs, es, .cons r t, h => rvk_disp xs t (RvK.put (k := .inr x) h r)
def kDisp (xs : List Str) (gs : AG) : Sd → Pt → Option (List (PyData × PyData) × Pt) := fun S ps => bindP (gs S ps) fun ds p => some (dispE xs ds, p)
theorem pdk_disp {pos : Pos} {ks : List (Option Expr)} {vs : List Expr} {xs : List Str} {gs : AG} (h : PDP X pos ks vs xs gs) (h0 : ks ≠ []) (h15 : ks.length ≤ 15) : PDE X (.Dict ks vs pos) (kDisp xs gs) := by
  obtain ⟨trs, h1, h2, h3, h4, h5⟩ := pdp_pps h
  refine pe_imp (pe_disp h1 h2 h3 h0 h15) fun σ H Q ⟨pp, ps, G, S, es, ps', c, s, e, k⟩ p hp => ?_
  obtain ⟨ds, p1, e1, e⟩ := bindP_inv e
  cases e
  have gh : Go pp ps [] G H G (upd H p (.dK [])) := Go.hide c hp
  refine h5 σ _ _ pp ps G S ds _ gh.cf (s.go gh) e1 fun ws G2 H2 g2 r2 hl => ?_
  have np : pp.no p := c.pne hp
  have h2p : H2 p = some (.dK []) := g2.keep p _ upd_same np (by simp) nt_dK
  have hG2 : G2 p = none := g2.gnone (c.ex.free hp) upd_same
  have gb := Go.bumpO (o := .dK (mergeK [] (((xs.zip ws).map fun p => ((.inr p.1 : Key), p.2))))) nt_dK h2p rfl (gh.trans g2) hp hG2 np
  refine ⟨h2p, (xs.zip ws).map fun p => ((.inr p.1 : Key), p.2), ?_, ?_, k p _ G2 _ gb hp hG2 upd_same (rvk_disp xs r2 .nil)⟩
  · rw [List.map_map, List.zip_map_left]
    rfl
  · rw [List.length_map, List.length_zip]
    omega
def eDisp (g : Sd → Pt → Option (List (PyData × PyData) × Pt)) : EG := fun S ps => bindP (g S ps) fun es p => some (.dict es, p)
theorem pd_disp {e : Expr} {g : Sd → Pt → Option (List (PyData × PyData) × Pt)} (h : PDE X e g) : PD X e (eDisp g) := pe_imp (pe_lockN h) fun σ H Q ⟨pp, ps, G, S, d, ps', c, s, e, k⟩ => by
  obtain ⟨es, p1, e1, e⟩ := bindP_inv e
  cases e
  refine ⟨pp, ps, G, S, es, _, c, s, e1, fun p kvs G1 H1 g1 h0 hG1 hp1 r1 => ⟨p, _, rfl, hp1, trivial, fun od => ?_⟩⟩
  have np : pp.no p := c.pne h0
  have gb : Go pp ps' [] G H G1 (upd H1 p (.frz od (.dK kvs))) := Go.bumpO nt_frz hp1 rfl g1 h0 hG1 np
  have gs := Go.show (o := .frz od (.dK kvs)) nt_frz gb h0 hG1 np upd_same
  exact k _ _ _ gs (.dct ⟨od, upd_same⟩ (RvK.mono (same_new hG1) _ _ r1))
end
end DL
set_option Elab.async false
set_option linter.all false
set_option maxRecDepth 100000
set_option maxHeartbeats 2000000
namespace DL
open PySem L2
variable [TBL]
section
variable {X : Cx}
end
section
variable {K : PySem.W.Frag} {pp : PP} {ps p1 : Pt} {G H G1 H1 : Hp} {S : Sd} {σ : L2.St}
end
end DL
set_option Elab.async false
set_option linter.all false
set_option maxRecDepth 100000
set_option maxHeartbeats 2000000
namespace DL
open PySem L2
variable [TBL]
section
variable {X : Cx}
end
end DL
set_option Elab.async false
set_option linter.all false
set_option maxRecDepth 100000
set_option maxHeartbeats 2000000
namespace DL
open PySem L2
variable [TBL]
section
variable {P : Program} {w : World} {K : PySem.W.Frag} {mg : Str → Option Value} {base : Heap} {k : Nat} {f : Addr} {fd : FuncData} {ps : List Str} {fn : List PyData → Pt → Option (PyData × Pt)}
theorem FnGX.imp {sp sp' : Sp} (F : FnGX P w K mg base k f fd ps sp) (h : ∀ vs H Q E, sp' vs H Q E → sp vs H Q E) : FnGX P w K mg base k f fd ps sp' :=
  ⟨fun vs H Q E z => F.len vs H Q E (h _ _ _ _ z), fun A out s H as us vs Q E r e0 hb rv z => F.go A out s H as us vs Q E r e0 hb rv (h _ _ _ _ z)⟩
end
section
variable {X : Cx} {E : XK}
end
section
variable {P : Program} {w : World} {K : PySem.W.Frag} {mg : Str → Option Value} {base : Heap}
end
section
variable {X : Cx}
end
end DL
namespace DL
open PySem L2
variable [TBL]
end DL
set_option Elab.async false
set_option linter.all false
set_option maxRecDepth 100000
set_option maxHeartbeats 2000000
namespace DL
open PySem L2
variable [TBL]
structure CO (K : PySem.W.Frag) (c : Str) : Prop where
  cls : Cls K (TBL.C c)
  no : ∀ f ∈ TBL.F c, NoAttr K (TBL.C c) f
  nd : (TBL.F c).Nodup
theorem rv_slf {K : PySem.W.Frag} {pp : PP} {G : Hp} {v : V} (h : Rv K pp G v slfD) : ∃ a, v = .ref a ∧ pp.s = some a := by
  unfold slfD at h
  cases h with
  | slf e => exact ⟨_, rfl, e⟩
  | dct _ h => exact (rvk_first h rfl).elim
  | dkx _ h _ => exact (mxk_first h rfl).elim
theorem putF_zip {f : Str} {v : V} : ∀ {fs : List Str} {vs : List V}, fs.Nodup → fs[vs.length]? = some f → L2.putF f v (fs.zip vs) = fs.zip (vs ++ [v])
  | [], _, _, h => by simp at h
  | g :: fs, [], hn, h => by
    have h' : g = f := by simpa using h
    subst h'
    simp [L2.putF]
  | g :: fs, w :: vs, hn, h => by
    have hn' := List.nodup_cons.mp hn
    have h' : fs[vs.length]? = some f := by simpa using h
    have hne : g ≠ f := fun z => by
      subst z
      exact hn'.1 (List.mem_of_getElem? h')
    rw [List.zip_cons_cons, List.cons_append, List.zip_cons_cons]
    show (if g = f then _ else _) = _
    rw [if_neg hne, putF_zip hn'.2 h']
section
variable {X : Cx}
end
end DL
set_option Elab.async false
set_option linter.all false
set_option maxRecDepth 100000
set_option maxHeartbeats 2000000
namespace DL
open PySem L2
variable [TBL]
abbrev isSlf : Nat → Bool := fun i => i == 2
structure Mkg (K : PySem.W.Frag) (pp : PP) (G H : Hp) (c : Str) (x dx : Addr) (vs : List V) (ds : List PyData) : Prop where
  hs : pp.s = some x
  hx : H x = some (.ins (TBL.C c) dx ((TBL.F c).zip vs))
  hg : G x = none
  np : pp.no x
  hl : vs.length ≤ (TBL.F c).length
  rl : RvL K pp G vs ds
theorem Mkg.go {K : PySem.W.Frag} {pp : PP} {ps : Pt} {G H G' H' : Hp} {c : Str} {x dx : Addr} {vs : List V} {ds : List PyData} (m : Mkg K pp G H c x dx vs ds) (g : Go pp ps [] G H G' H') : Mkg K pp G' H' c x dx vs ds :=
  ⟨m.hs, g.keep x _ m.hx m.np (by simp) nt_ins, g.gnone m.hg m.hx, m.np, m.hl, RvL.mono g.gg _ _ m.rl⟩
section
variable {X : Cx} {E : XK}
section
variable {K : PySem.W.Frag} {pp : PP} {G : Hp} {x C dx : Addr} {fs : List (Str × V)}
end
end
end DL
set_option Elab.async false
set_option linter.all false
set_option maxRecDepth 100000
set_option maxHeartbeats 2000000
namespace DL
open PySem L2
variable [TBL]
section
variable {K : PySem.W.Frag} {pp : PP} {ps ps1 ps2 : Pt} {ow : List Addr} {G H G1 H1 G2 H2 : Hp} {x : Addr}
theorem Cf.sf (c : Cf pp ps G H) : Cf (pp.sf x) ps G H := ⟨c.ex, c.pot, c.pnd, c.tb, c.vt, c.ot⟩
theorem RvL.sf {vs : List V} {ds : List PyData} (f : freeL isSlf ds = true) (h : RvL K pp G vs ds) : RvL K (pp.sf x) G vs ds := RvL.swapI (I := isSlf) (pp := pp) (pp' := pp.sf x) (fun _ _ => rfl) (fun z => by cases z) ds vs f h
theorem Go.drop (a : Go pp ps1 [] G H G1 H1) (h : H x = none) (b : Go pp ps2 [x] G1 H1 G2 H2) : Go pp ps2 [] G H G2 H2 where
  gg := a.gg.trans b.gg
  cf := b.cf
  fresh := fun c o h n => by
    cases q : G1 c with
    | none => exact a.there c (b.fresh c o h q)
    | some u => exact a.fresh c u q n
  keep := fun c o hc hp ho nt => b.keep c o (a.keep c o hc hp (by simp) nt) hp (by
    have : c ≠ x := fun z => by
      subst z
      rw [h] at hc
      cases hc
    simpa using this) nt
  there := fun c h => a.there c (b.there c h)
end
section
variable {P : Program} {w : World} {K : PySem.W.Frag} {mg : Str → Option Value} {base : Heap}
end
section
variable {X : Cx} {W : WX}
end
end DL
set_option Elab.async false
set_option linter.all false
set_option maxRecDepth 100000
set_option maxHeartbeats 2000000
namespace DL
open PySem L2
variable [TBL]
section
variable {X : Cx}
end
section
variable {X : Cx} {pins : List (Addr × Obj)} {σ : L2.St} {H : Hp} {s : Shared}
end
section
variable {X : Cx}
end
section
variable {P : Program} {w : World} {K : PySem.W.Frag} {mg : Str → Option Value} {base : Heap}
end
end DL
set_option Elab.async false
set_option linter.all false
set_option maxRecDepth 100000
set_option maxHeartbeats 2000000
namespace DL
open PySem L2
variable [TBL]
section
variable {cs : List Addr} {H HZ H1 : Hp}
end
end DL
set_option Elab.async false
set_option linter.all false
set_option maxRecDepth 100000
set_option maxHeartbeats 2000000
namespace DL
open PySem L2
variable [TBL]
section
variable {P : Program} {w : World} {K : PySem.W.Frag} {mg : Str → Option Value} {base : Heap}
end
end DL
set_option Elab.async false
set_option linter.all false
set_option maxRecDepth 100000
set_option maxHeartbeats 2000000
namespace DL
open PySem L2
variable [TBL]
section
variable {K : PySem.W.Frag} {pp : PP} {G : Hp} {cs : List Addr}
end
section
variable {X : Cx}
end
end DL
set_option Elab.async false
set_option linter.all false
set_option maxRecDepth 100000
set_option maxHeartbeats 2000000
namespace DL
open PySem L2
variable [TBL]
section
variable {P : Program} {w : World} {K : PySem.W.Frag} {mg : Str → Option Value} {base : Heap}
end
end DL
set_option Elab.async false
set_option linter.all false
set_option maxRecDepth 100000
set_option maxHeartbeats 2000000
namespace DL
open PySem L2
variable [TBL]
section
variable {X : Cx}
end
end DL
set_option Elab.async false
set_option linter.all false
set_option maxRecDepth 100000
set_option maxHeartbeats 2000000
namespace DL
open PySem L2
variable [TBL]
def dropE (es : List (PyData × PyData)) (k : Key) : List (PyData × PyData) := es.filter fun e => decide (keyOf e.1 ≠ some k)
theorem keyOf_D (k : Key) : keyOf (keyD k) = some k := by cases k <;> rfl
theorem RvK.drop {K : PySem.W.Frag} {pp : PP} {G : Hp} : ∀ {kvs : List (Key × V)} {es : List (PyData × PyData)} (k : Key), RvK K pp G kvs es → RvK K pp G (dropK kvs k) (dropE es k)
  | _, _, _, .nil => .nil
  | _, _, k, .cons (k := k') (v := v) (kvs := kvs) (d := d) (es := es) r t => by
    have ih := RvK.drop k t
    unfold dropK dropE at ih ⊢
    by_cases h : k' = k
    · rw [List.filter_cons_of_neg (by simp [h]), List.filter_cons_of_neg (by simp [keyOf_D, h])]
      exact ih
    · rw [List.filter_cons_of_pos (by simp [h]), List.filter_cons_of_pos (by simp [keyOf_D, h])]
      exact .cons r ih
section
variable {X : Cx}
def sPopD (i : Nat) (gk : EG) : SG := fun S ps => match S[i]? with
  | some (.own (.dict es)) => bindP (gk S ps) fun y p1 => match keyOf y with
    | some k => if notPot es && (getE es k).isSome then some (.nx (S.set i (.own (.dict (dropE es k)))), p1) else none
    | none => none
  | _ => none
theorem pds_popD {i : Nat} {x : Str} {ek : Expr} {gk : EG} {pn apos cpos pos : Pos} (hN : X.N[i]? = some x) (hv : Vis X.env.scope x) (hk : PD X ek gk) (m : M1 X (.Name x pn) "pop" apos ek cpos) (hs : swapsWith (.Call (.Attribute (.Name x pn) "pop" apos) [ek] [] cpos) none pos.line X.env = pure false := by rfl)
    (hd : (x == ("__debug__" : Str)) = false := by decide) (hcd : (x == ("__classdict__" : Str)) = false := by decide) : PDS X (.Expr (.Call (.Attribute (.Name x pn) "pop" apos) [ek] [] cpos) pos) (sPopD i gk) :=
  ps_imp (ps_expr (pe_dpop1 (pe_var hN hv hd hcd) hk m) hs) fun D σ H ⟨pp, ps, G, S, r, ps', c, s, e, k⟩ => by
    unfold sPopD at e
    split at e
    · next es eo =>
      obtain ⟨y, p2, e2, e⟩ := bindP_inv e
      split at e
      · next ky hky =>
        obtain ⟨hlt, e⟩ := ite_inv e
        cases e
        rw [Bool.and_eq_true] at hlt
        obtain ⟨p, ob, hσ, hp, hGp, np, rvo⟩ := s.own eo
        obtain ⟨kvs, rfl, rv⟩ := rvo.dct hlt.1
        refine ⟨.ref p, hσ, p, rfl, .inl ⟨kvs, .inl hp⟩, pp, ps, G, S, y, _, c, s, e2, fun w G2 H2 g2 r2 => ?_⟩
        have rv2 := RvK.mono g2.gg _ _ rv
        have hp2 : H2 p = some (.dK kvs) := g2.keep p _ hp np (by simp) nt_dK
        obtain ⟨a, b⟩ := own_upd (d1 := .dict (dropE es ky)) (ob' := .dK (dropK kvs ky)) s g2 eo hσ hp rfl (show OwnO X.K pp G2 (.dK (dropK kvs ky)) (.dict (dropE es ky)) from RvK.drop ky rv2)
        rcases rv2.get ky with ⟨_, z⟩ | ⟨v, d, z1, z2, _⟩
        · rw [z] at hlt
          cases hlt.2
        · exact ⟨kvs, ky, v, hp2, rv_key r2 hky, z1, k σ G2 _ a b⟩
      · cases e
    · cases e
end
end DL
set_option Elab.async false
set_option linter.all false
set_option maxRecDepth 100000
set_option maxHeartbeats 2000000
namespace DL
open PySem L2
variable [TBL]
section
variable {prog : Program} {w : World} {A : Around} {E : Value → Shared → Prop} {s : Shared}
end
end DL
set_option Elab.async false
set_option linter.all false
set_option maxRecDepth 100000
set_option maxHeartbeats 2000000
namespace DL
open PySem L2
variable [TBL]
section
variable {K : PySem.W.Frag} {pp : PP} {G : Hp} {h h' : Heap}
end
section
variable {X : Cx}
end
end DL
set_option Elab.async false
set_option linter.all false
set_option maxRecDepth 100000
set_option maxHeartbeats 2000000
namespace DL
open PySem L2
variable [TBL]
section
variable {X : Cx}
end
end DL
set_option Elab.async false
set_option linter.all false
set_option maxRecDepth 100000
set_option maxHeartbeats 4000000
namespace DL
open PySem L2
variable [TBL]
section
open PySem.W PySem.Spec PySem.Calls PyProof.Rows
variable {prog : Program} {w : World} {A : Around} {E : Value → Shared → Prop} {K : Frag} {x D : Addr} {ox : Obj} {oo : Option Obj}
theorem obj_cls (C : L2.ExcC K D) : findObj K D oo "__class__" = some (.bind (.builtin "getset_descriptor.__get__") (.builtin "object.__class__")) := by
  obtain ⟨cd, hc, _⟩ := any_some C.hd
  unfold findObj
  rw [hc, Option.bind_some, C.ha, Option.bind_some]
  simp [C.hn, C.ht]
theorem cls_any {s : Shared} {Q : Option Value → Shared → Prop} (C : L2.ExcC K D) (X : K.In s.heap) (I : InstAt s.heap x ox D oo) (h : Q (some (.ref D)) { s with toks := s.toks + 1 }) : wpAny (model prog w) A (getAttr? (.ref x) "__class__") Q E s := by
  obtain ⟨hp, g, d, t, os⟩ := s
  have ty := I.type (M := model prog w)
  have own := looks_findIn (M := model prog w) X C.hg
  have more := looks_findIn (M := model prog w) X C.hk
  have at_ := looks_find (M := model prog w) X I (obj_cls C)
  have isE : Looks (model prog w) hp
      (isInstance (.ref x) (.type "BaseException")) true := ty.andThen (looks_subIn X C.hs)
  have n1 : (Value.builtin "BaseException.__getattribute__" == .builtin "object.__getattribute__") = false := by decide +kernel
  unfold getAttr? getAttrBy? getAttrBy
  refine wpAny_bind (wpAny_mkText (wpAny_bind (wpAny_attempt (wpAny_holding (wpAny_bind (ty.at (wpAny_bind (own.at (?_))))))))
  )
  dsimp only
  rw [show (onTheHeap (Value.ref D) && Value.builtin "BaseException.__getattribute__" == .builtin "object.__getattribute__") = false by rw [n1]; rfl]
  rw [if_neg (by simp)]
  unfold getAttrByItsOwn hookBefore
  refine wpAny_bind ?_
  rw [if_pos (by rfl)]
  refine more.at (wpAny_bind (wpAny_attempt (wpAny_holding ?_)))
  unfold callGetattribute
  rw [if_neg (by simp [onTheHeap])]
  unfold boundAndCalled
  rw [F.excAttr_ValueError.ga.bind (.ref x)]
  refine wpAny_bind (wpAny_pure (wpAny_call (codeAny_call_builtin F.excAttr_ValueError.ga.plain F.entry_bexc_ga ?_)))
  refine @check_slot (model prog w) _ _ ⟨hp, g, d, t + 1, os⟩ "BaseException.__getattribute__" "BaseException" "__getattribute__" (.ref x)
    [.str "__class__" t] [] _ (by decide +kernel) (by decide +kernel) isE (F.args_bexc_ga (.ref x) (.str "__class__" t)) ?_
  unfold Builtin.«object.__getattribute__»
  refine wpAny_bind (wpAny_of_eq (a := ((Value.ref x : Value), [Value.str "__class__" t])) (by first | rfl | (simp only [slotArgs]; rfl)) (wpAny_bind (wpAny_pure (wpAny_bind (ty.at (wpAny_bind (at_.at ?_)))))))
  refine wpAny_bind (wpAny_holding (wpAny_call (class_get (s := ⟨hp, g, d, t + 1, os⟩) (ox := ox) (od := oo) X I C.hm ?_)))
  refine wpAny_pure ?_
  show wpAny _ _ (handedOut (.ref D)) _ _ _
  rw [handedOut_of (v := .ref D) rfl]
  first
    | exact wpAny_pure (wpAny_pure h)
    | exact wpAny_pure h
    | exact wpAny_pure (wpAny_bind (wpAny_pure (wpAny_pure h)))
theorem kitx_any (C : L2.ExcC K D) : KitX K (.ref x) (.ref D) (fun h => InstAt h x ox D oo) where
  ty := fun _ _ _ I => I.type
  it := fun _ _ X _ => by
    obtain ⟨cd, hc, _⟩ := any_some C.hd
    unfold clsIn at hc
    split at hc
    · next ho =>
      intro A' Q' E' s' k q
      unfold isType loadHead
      exact wpAny_bind (wpAny_loadPart (k _ _ (X _ _ ho)) (wpAny_pure q))
    · cases hc
  ne := fun h tp dd its n sl X htp => by
    obtain ⟨cd, hc, _⟩ := any_some C.hd
    rw [Bool.eq_false_iff]
    intro q
    have e := Value.ref.inj (beq_iff_eq.mp q)
    subst e
    unfold clsIn at hc
    split at hc
    · next ho =>
      have z := (X _ _ ho).symm.trans htp
      cases z
    · cases hc
  ca := fun X I k => cls_any C X I k
end
section
open PyProof.Rows
variable {X : Cx}
end
end DL
set_option Elab.async false
set_option linter.all false
set_option maxRecDepth 100000
set_option maxHeartbeats 2000000
namespace DL
section
open PySem L2 PyProof.Rows
variable {prog : Program} {w : World} {A : Around} {E : Value → Shared → Prop} {s : Shared}
end
section
open PySem L2 PyProof.Rows
variable [TBL] {X : Cx}
end
open PySem L2
variable [TBL]
section
variable {X : Cx}
end
section
open PySem PySem.W PySem.Calls PyProof.Rows PyProof.V PySem.Spec L2
variable {X : Cx}
end
end DL
set_option Elab.async false
set_option linter.all false
set_option maxRecDepth 100000
set_option maxHeartbeats 2000000
namespace DL
open PySem L2 RZ
section
variable {prog : Program} {w : World} {A : Around} {E : Value → Shared → Prop} {s : Shared}
end
section
variable {X : Cx}
end
section
variable [TBL] {X : Cx}
end
end DL
set_option Elab.async false
set_option linter.all false
set_option maxRecDepth 100000
set_option maxHeartbeats 2000000
namespace PySem
namespace HandSPX
open PySem PySem.W PySem.Calls PyProof.Rows Builtin Builtin.ObjectAttr
section
variable {M : Model} {A : Around} {E : Value → Shared → Prop} {h : Heap} {g : Array GenState} {d : Drawn} {t : Nat} {os : OsState}
variable {nm q : Str} {C N : Addr} {bs bm bmB : List Value} {hdct : Bool} {sn : List Str} {sub : List Value} {ab : Bool} {col : Option Bool} {dd : Option Addr} {k0 k1 k2 k3 k5 : Option Value} {B newId initId : String}
end
section
variable {prog : Program} {w : World} {A : Around} {E : Value → Shared → Prop} {R : Result → Shared → Prop} {h : Heap} {g : Array GenState} {d : Drawn} {t : Nat} {os : OsState}
variable {nm q : Str} {C N : Addr} {bs bm bmB : List Value} {hdct : Bool} {sn : List Str} {sub : List Value} {ab : Bool} {col : Option Bool} {dd : Option Addr} {k0 k1 k2 k3 k5 : Option Value} {B newId initId : String}
end
end HandSPX
end PySem
set_option Elab.async false
set_option linter.all false
set_option maxRecDepth 100000
set_option maxHeartbeats 2000000
namespace DX
open PySem PySem.W PySem.Calls PyProof.Rows PySem.HandSPX Builtin Builtin.ObjectAttr
section
variable {prog : Program} {w : World} {A : Around} {E : Value → Shared → Prop} {R : Result → Shared → Prop} {K : Frag} {mg : Str → Option Value} {base : Heap} {C fI cda cc : Addr} {q x f g : Str} {params : Arguments} {body : List Stmt} {scope : Scope} {B newId initId : String} {bmB : List Value}
end
end DX
set_option Elab.async false
set_option linter.all false
set_option maxRecDepth 100000
set_option maxHeartbeats 2000000
namespace DL
open PySem L2
section
variable {P : Program} {w : World} {fs ex : List Addr} {H : Hp} {h h' : Heap} {d e : Addr} {o1 o2 : HO}
end
variable [TBL]
section
variable {X : Cx} {pins : List (Addr × Obj)} {σ : L2.St} {H : Hp} {s : Shared} {h' : Heap} {c : Str} {e d : Addr} {tk : Nat}
end
section
variable {X : Cx}
end
end DL
set_option Elab.async false
set_option linter.all false
set_option maxRecDepth 100000
set_option maxHeartbeats 2000000
namespace DL
open PySem L2
variable [TBL]
section
variable {X : Cx} {pins : List (Addr × Obj)} {σ : L2.St} {H : Hp} {s : Shared}
end
section
variable {X : Cx}
end
end DL
set_option Elab.async false
set_option linter.all false
set_option maxRecDepth 100000
set_option maxHeartbeats 2000000
namespace DL
open PySem L2
section
open PySem.W PyProof.Rows
variable {prog : Program} {w : World} {A : Around} {E : Value → Shared → Prop} {K : Frag} {a C f : Addr} {s : Shared} {ox : Obj} {od : Option Obj}
end
variable [TBL]
section
variable {X : Cx}
end
end DL
set_option Elab.async false
set_option linter.all false
set_option maxRecDepth 100000
set_option maxHeartbeats 2000000
namespace DL
open PySem L2
variable [TBL]
section
variable {P : Program} {w : World} {K : PySem.W.Frag} {mg : Str → Option Value} {base : Heap}
end
end DL
set_option Elab.async false
set_option linter.all false
set_option maxRecDepth 100000
set_option maxHeartbeats 2000000
namespace DL
open PySem L2
variable [TBL]
section
variable {X : Cx}
end
end DL
set_option Elab.async false
set_option linter.all false
set_option maxRecDepth 100000
set_option maxHeartbeats 2000000
namespace DL
open PySem L2
variable [TBL]
section
variable {X : Cx}
def tLst (n : Nat) (ts : TgtL) : Tgt := fun d S => match d with
  | .list ds => if ds.length = n then ts ds S else none
  | _ => none
end
end DL
set_option Elab.async false
set_option linter.all false
set_option maxRecDepth 100000
set_option maxHeartbeats 2000000
namespace DL
open PySem L2 PyProof.Rows
variable [TBL] {X : Cx}
end DL
set_option Elab.async false
set_option linter.all false
set_option maxRecDepth 100000
set_option maxHeartbeats 2000000
namespace DL
open PySem L2
variable [TBL]
inductive MF where
  | dat (d : PyData)
  | own (ds : List PyData)
def MF.fz : MF → PyData
  | .dat d => d
  | .own ds => .list ds
def OwM (x : Addr) (vs : List V) (fs : List MF) (b : Addr) : Prop := b = x ∨ ∃ (i : Nat) (ds : List PyData), fs[i]? = some (.own ds) ∧ vs[i]? = some (.ref b)
def FldOk (K : PySem.W.Frag) (pp : PP) (G H : Hp) (x : Addr) (v : V) : MF → Prop
  | .dat d => Rv K pp G v d
  | .own ds => ∃ p us, v = .ref p ∧ H p = some (.lst us) ∧ G p = none ∧ pp.no p ∧ p ≠ x ∧ RvL K pp G us ds
structure MxAt (K : PySem.W.Frag) (pp : PP) (G H : Hp) (c : Str) (x dx : Addr) (vs : List V) (fs : List MF) : Prop where
  hs : pp.s = some x
  hx : H x = some (.ins (TBL.C c) dx ((TBL.F c).zip vs))
  hg : G x = none
  np : pp.no x
  hl : vs.length ≤ (TBL.F c).length
  len : vs.length = fs.length
  each : ∀ (i : Nat) (f : MF) (v : V), fs[i]? = some f → vs[i]? = some v → FldOk K pp G H x v f
  apart : ∀ (i j : Nat) (ds es : List PyData) (p : Addr), fs[i]? = some (.own ds) → fs[j]? = some (.own es) → vs[i]? = some (.ref p) → vs[j]? = some (.ref p) → i = j
section
variable {K : PySem.W.Frag} {pp : PP} {ps ps1 ps2 : Pt} {G H G1 H1 G2 H2 : Hp} {c : Str} {x dx : Addr} {vs : List V} {fs : List MF}
theorem MxAt.at_ (m : MxAt K pp G H c x dx vs fs) {b : Addr} (h : OwM x vs fs b) : G b = none ∧ pp.no b ∧ ∃ o, H b = some o ∧ OwnB o = true := by
  rcases h with rfl | ⟨i, ds, e1, e2⟩
  · exact ⟨m.hg, m.np, _, m.hx, rfl⟩
  · obtain ⟨p, us, e3, h1, h2, h3, _⟩ := m.each i _ _ e1 e2
    cases e3
    exact ⟨h2, h3, _, h1, rfl⟩
theorem MxAt.mono (m : MxAt K pp G H c x dx vs fs) (gg : Same G G1) (hk : ∀ b o, OwM x vs fs b → H b = some o → H1 b = some o) (hg : ∀ b, OwM x vs fs b → G1 b = none) : MxAt K pp G1 H1 c x dx vs fs := by
  refine ⟨m.hs, hk x _ (.inl rfl) m.hx, hg x (.inl rfl), m.np, m.hl, m.len, fun i f v e1 e2 => ?_, m.apart⟩
  have h := m.each i f v e1 e2
  cases f with
  | dat d => exact Rv.mono gg _ _ h
  | own ds =>
    obtain ⟨p, us, e3, h1, h2, h3, h4, h5⟩ := h
    subst e3
    have ow : OwM x vs fs p := .inr ⟨i, ds, e1, e2⟩
    exact ⟨p, us, rfl, hk p _ ow h1, hg p ow, h3, h4, RvL.mono gg _ _ h5⟩
structure GoP (pp : PP) (ps' : Pt) (O : Addr → Prop) (G H : Hp) (O2 : Addr → Prop) (G' H' : Hp) : Prop where
  gg : Same G G'
  cf : Cf pp ps' G' H'
  fresh : ∀ b o, G' b = some o → G b = none → H b = none ∨ O b
  keep : ∀ b o, H b = some o → pp.no b → ¬ O b → NT o → H' b = some o
  own : ∀ b, O2 b → H b = none ∨ O b
  there : ∀ b, H' b = none → H b = none
theorem GoP.trans {O O1 O2 : Addr → Prop} (a : GoP pp ps1 O G H O1 G1 H1) (b : GoP pp ps2 O1 G1 H1 O2 G2 H2) : GoP pp ps2 O G H O2 G2 H2 where
  gg := a.gg.trans b.gg
  cf := b.cf
  fresh := fun c o h n => by
    cases q : G1 c with
    | none =>
      rcases b.fresh c o h q with z | z
      · exact .inl (a.there c z)
      · exact a.own c z
    | some u => exact a.fresh c u q n
  keep := fun c o h hp ho nt => b.keep c o (a.keep c o h hp ho nt) hp (fun z => by
    rcases a.own c z with y | y
    · rw [h] at y
      cases y
    · exact ho y) nt
  own := fun c z => by
    rcases b.own c z with y | y
    · exact .inl (a.there c y)
    · exact a.own c y
  there := fun c z => a.there c (b.there c z)
theorem GoP.toGo {O O2 : Addr → Prop} (g : GoP pp ps1 O G H O2 G1 H1) (h : ∀ b, O b → H b = none) : Go pp ps1 [] G H G1 H1 :=
  ⟨g.gg, g.cf, fun b o x y => (g.fresh b o x y).elim id (h b), fun b o x y _ nt => g.keep b o x y (fun z => by rw [h b z] at x; cases x) nt, g.there⟩
open Classical in
noncomputable def frzG (P : Addr → Prop) (G H : Hp) : Hp := fun b => if P b then H b else G b
variable {P : Addr → Prop}
theorem frzG_pos {b : Addr} (h : P b) : frzG P G H b = H b := if_pos h
theorem frzG_neg {b : Addr} (h : ¬ P b) : frzG P G H b = G b := if_neg h
theorem frz_same (hP : ∀ b, P b → G b = none) : Same G (frzG P G H) := fun b o e => by
  rw [frzG_neg fun z => by rw [hP b z] at e; cases e]
  exact e
theorem frz_cf (c : Cf pp ps G H) (hP : ∀ b, P b → G b = none ∧ pp.no b ∧ ∃ o, H b = some o ∧ OwnB o = true) : Cf pp ps (frzG P G H) H := by
  have sm : Same G (frzG P G H) := frz_same fun b h => (hP b h).1
  refine ⟨fun b u e => ?_, fun i a ha => ⟨?_, (c.pot i a ha).2⟩, c.pnd, c.tb, fun b ts e => ?_, c.ot.mono sm⟩
  · by_cases z : P b
    · rw [frzG_pos z] at e; exact e
    · rw [frzG_neg z] at e; exact c.ex b u e
  · rw [frzG_neg fun z => (hP a z).2.1 i ha]
    exact (c.pot i a ha).1
  · by_cases z : P b
    · rw [frzG_pos z] at e
      obtain ⟨o, h1, h2⟩ := (hP b z).2.2
      rw [e] at h1
      cases h1
      cases h2
    · rw [frzG_neg z] at e
      exact c.vt b ts e
end
def OM (S : Sd) (σ : L2.St) (x : Addr) (vs : List V) (fs : List MF) (b : Addr) : Prop := OwM x vs fs b ∨ Owned S σ b
structure StM (K : PySem.W.Frag) (pp : PP) (ps : Pt) (G H : Hp) (c : Str) (S : Sd) (σ : L2.St) (x dx : Addr) (vs : List V) (fs : List MF) : Prop where
  cf : Cf pp ps G H
  sl : Sl K pp G H S σ
  s0 : S[(0 : Nat)]? = some (.dat slfD)
  mx : MxAt K pp G H c x dx vs fs
  ap : ∀ b, OwM x vs fs b → ¬ Owned S σ b
section
variable {K : PySem.W.Frag} {pp : PP} {ps ps1 : Pt} {G H G1 H1 : Hp} {c : Str} {S S1 : Sd} {σ σ1 : L2.St} {x dx : Addr} {vs : List V} {fs : List MF}
theorem StM.self (s : StM K pp ps G H c S σ x dx vs fs) : σ[(0 : Nat)]? = some (some (.ref x)) := by
  obtain ⟨o, h1, v, rfl, r⟩ := s.sl.each 0 _ s.s0
  obtain ⟨a, rfl, ha⟩ := rv_slf r
  rw [s.mx.hs] at ha
  cases ha
  exact h1
theorem StM.frz (s : StM K pp ps G H c S σ x dx vs fs) : Cf pp ps (frzG (OwM x vs fs) G H) H ∧ Sl K pp (frzG (OwM x vs fs) G H) H (S.set 0 (.dat (objD c (fs.map MF.fz)))) σ := by
  have hP : ∀ b, OwM x vs fs b → G b = none ∧ pp.no b ∧ ∃ o, H b = some o ∧ OwnB o = true := fun b h => s.mx.at_ h
  have sm : Same G (frzG (OwM x vs fs) G H) := frz_same fun b h => (hP b h).1
  refine ⟨frz_cf s.cf hP, ?_⟩
  have s1 : Sl K pp (frzG (OwM x vs fs) G H) H S σ := by
    refine ⟨s.sl.len, fun i sv e => ?_, s.sl.apart⟩
    obtain ⟨o, h1, h2⟩ := s.sl.each i sv e
    refine ⟨o, h1, ?_⟩
    cases sv with
    | un => trivial
    | dat d =>
      obtain ⟨w, rfl, r⟩ := h2
      exact ⟨w, rfl, Rv.mono sm _ _ r⟩
    | own d =>
      obtain ⟨q, ob, rfl, q1, q2, q3, q4⟩ := h2
      refine ⟨q, ob, rfl, q1, ?_, q3, q4.mono sm⟩
      rw [frzG_neg fun z => s.ap q z ⟨i, d, e, h1⟩]
      exact q2
  have rl : RvL K pp (frzG (OwM x vs fs) G H) vs (fs.map MF.fz) := by
    have key : ∀ (vs' : List V) (fs' : List MF), vs'.length = fs'.length → (∀ (i : Nat) (f : MF) (v : V), fs'[i]? = some f → vs'[i]? = some v → Rv K pp (frzG (OwM x vs fs) G H) v f.fz) → RvL K pp (frzG (OwM x vs fs) G H) vs' (fs'.map MF.fz) := by
      intro vs'
      induction vs' with
      | nil =>
        intro fs' hl _
        cases fs' with
        | nil => exact .nil
        | cons f r => cases hl
      | cons v r ih =>
        intro fs' hl h
        cases fs' with
        | nil => cases hl
        | cons f t => exact .cons (h 0 f v rfl rfl) (ih t (Nat.succ.inj hl) fun i f v e1 e2 => h (i + 1) f v (by simpa using e1) (by simpa using e2))
    refine key vs fs s.mx.len fun i f v e1 e2 => ?_
    have h := s.mx.each i f v e1 e2
    cases f with
    | dat d => exact Rv.mono sm _ _ h
    | own ds =>
      obtain ⟨p, us, e3, h1, h2, h3, h4, h5⟩ := h
      subst e3
      refine .lst (.inl ?_) (RvL.mono sm _ _ h5)
      rw [frzG_pos (.inr ⟨i, ds, e1, e2⟩)]
      exact h1
  have hx : frzG (OwM x vs fs) G H x = some (.ins (TBL.C c) dx ((TBL.F c).zip vs)) := by
    rw [frzG_pos (.inl rfl)]
    exact s.mx.hx
  have := s1.set (i := 0) (v := .ref x) (d := objD c (fs.map MF.fz)) (.obj ⟨dx, hx, s.mx.hl⟩ rl)
  rw [set_self s.self] at this
  exact this
theorem StM.go (s : StM K pp ps G H c S σ x dx vs fs) (g : Go pp ps1 [] G H G1 H1) : StM K pp ps1 G1 H1 c S σ x dx vs fs := by
  refine ⟨g.cf, s.sl.go g, s.s0, s.mx.mono g.gg (fun b o h e => ?_) (fun b h => ?_), s.ap⟩
  · obtain ⟨_, h2, o', h3, h4⟩ := s.mx.at_ h
    rw [e] at h3
    cases h3
    exact g.keep b o e h2 (by simp) (ownB_nt h4)
  · obtain ⟨h1, _, o', h3, _⟩ := s.mx.at_ h
    cases q : G1 b with
    | none => rfl
    | some u =>
      have := g.fresh b u q h1
      rw [h3] at this
      cases this
end
inductive OutM where
  | nx (S : Sd) (fs : List MF)
  | rt (d : PyData) (fs : List MF)
def EndM (K : PySem.W.Frag) (D : Ends) (c : Str) (pp : PP) (ps' : Pt) (S : Sd) (σ : L2.St) (x : Addr) (vs : List V) (fs : List MF) (G H : Hp) : OutM → Prop
  | .nx S' fs' => ∀ σ' G' H' dx' vs', GoP pp ps' (OM S σ x vs fs) G H (OM S' σ' x vs' fs') G' H' → StM K pp ps' G' H' c S' σ' x dx' vs' fs' → D.nx σ' H'
  | .rt d fs' => ∀ v G' H' dx' vs', GoP pp ps' (OM S σ x vs fs) G H (OwM x vs' fs') G' H' → MxAt K pp G' H' c x dx' vs' fs' → Rv K pp G' v d → D.rt v H'
theorem EndM.back {K : PySem.W.Frag} {D : Ends} {c : Str} {pp : PP} {ps1 ps' : Pt} {S S1 : Sd} {σ σ1 : L2.St} {x : Addr} {vs vs1 : List V} {fs fs1 : List MF} {G H G1 H1 : Hp} {r : OutM} (a : GoP pp ps1 (OM S σ x vs fs) G H (OM S1 σ1 x vs1 fs1) G1 H1) (h : EndM K D c pp ps' S σ x vs fs G H r) : EndM K D c pp ps' S1 σ1 x vs1 fs1 G1 H1 r := by
  cases r with
  | nx S' fs' => exact fun σ' G' H' dx' vs' g s => h σ' G' H' dx' vs' (a.trans g) s
  | rt d fs' => exact fun v G' H' dx' vs' g s r => h v G' H' dx' vs' (a.trans g) s r
section
variable {X : Cx} {c : Str}
theorem StM.set {K : PySem.W.Frag} {pp : PP} {ps : Pt} {G H : Hp} {S : Sd} {σ : L2.St} {x dx : Addr} {vs : List V} {fs : List MF} (s : StM K pp ps G H c S σ x dx vs fs) {i : Nat} (hi : i ≠ 0) {v : V} {d : PyData} (r : Rv K pp G v d) : StM K pp ps G H c (S.set i (.dat d)) (σ.set i (some v)) x dx vs fs :=
  ⟨s.cf, s.sl.set r, by rw [List.getElem?_set_ne hi]; exact s.s0, s.mx, fun b h ho => s.ap b h (owned_set dat_ne ho)⟩
end
end DL
set_option Elab.async false
set_option linter.all false
set_option maxRecDepth 100000
set_option maxHeartbeats 2000000
namespace DL
open PySem L2
variable [TBL]
def putAt {α : Type} (j : Nat) (x : α) (l : List α) : List α := if j < l.length then l.set j x else l ++ [x]
theorem putAt_get {α : Type} {j : Nat} {x : α} {l : List α} (h : j ≤ l.length) (i : Nat) : (putAt j x l)[i]? = if i = j then some x else l[i]? := by
  unfold putAt
  by_cases hj : j < l.length
  · rw [if_pos hj, List.getElem?_set]
    by_cases e : j = i
    · rw [if_pos e, if_pos hj, if_pos e.symm]
    · rw [if_neg e, if_neg (Ne.symm e)]
  · rw [if_neg hj]
    have hl : j = l.length := by omega
    by_cases e : i = j
    · rw [if_pos e, e, hl, List.getElem?_append_right (Nat.le_refl _)]
      simp
    · rw [if_neg e]
      by_cases hi : i < l.length
      · rw [List.getElem?_append_left hi]
      · rw [List.getElem?_eq_none (by rw [List.length_append]; simp; omega), List.getElem?_eq_none (by omega)]
theorem putAt_len {α : Type} {j : Nat} {x : α} {l : List α} (h : j ≤ l.length) : (putAt j x l).length = max l.length (j + 1) := by
  unfold putAt
  by_cases hj : j < l.length
  · rw [if_pos hj, List.length_set]; omega
  · rw [if_neg hj, List.length_append]; simp; omega
theorem putF_set {f : Str} {v : V} : ∀ {fs : List Str} {vs : List V} {j : Nat}, fs.Nodup → fs[j]? = some f → j < vs.length → L2.putF f v (fs.zip vs) = fs.zip (vs.set j v)
  | [], _, _, _, h, _ => by simp at h
  | g :: fs, [], _, _, _, h => by simp at h
  | g :: fs, w :: vs, 0, hn, h, _ => by
    have h' : g = f := by simpa using h
    subst h'
    simp [L2.putF]
  | g :: fs, w :: vs, j + 1, hn, h, hl => by
    have hn' := List.nodup_cons.mp hn
    have h' : fs[j]? = some f := by simpa using h
    have hne : g ≠ f := fun z => by
      subst z
      exact hn'.1 (List.mem_of_getElem? h')
    rw [List.zip_cons_cons, List.set_cons_succ, List.zip_cons_cons]
    show (if g = f then _ else _) = _
    rw [if_neg hne, putF_set hn'.2 h' (by simpa using hl)]
theorem putF_putAt {f : Str} {v : V} {fs : List Str} {vs : List V} {j : Nat} (hn : fs.Nodup) (hf : fs[j]? = some f) (hj : j ≤ vs.length) : L2.putF f v (fs.zip vs) = fs.zip (putAt j v vs) := by
  unfold putAt
  by_cases h : j < vs.length
  · rw [if_pos h, putF_set hn hf h]
  · rw [if_neg h]
    have : j = vs.length := by omega
    subst this
    exact putF_zip hn hf
section
variable {K : PySem.W.Frag} {pp : PP} {ps ps1 : Pt} {G H G1 H1 : Hp} {c : Str} {S S1 : Sd} {σ σ1 : L2.St} {x dx : Addr} {vs : List V} {fs : List MF}
theorem cf_updO (c0 : Cf pp ps G H) {p : Addr} {o o' : HO} (hp : H p = some o) (ho : OwnB o = true) (ho' : OwnB o' = true) (hg : G p = none) (np : pp.no p) : Cf pp ps G (upd H p o') := by
  refine ⟨fun b u e => ?_, fun i a ha => ⟨(c0.pot i a ha).1, ?_⟩, c0.pnd, tab_upd hp (ownB_pl ho) c0.tb, c0.vt, ot_upd (ownB_nt ho') c0.ot⟩
  · rw [upd_ne (ne_of_none e hg)]
    exact c0.ex b u e
  · have hne : a ≠ p := fun z => np i (z ▸ ha)
    rw [upd_ne hne]
    exact (c0.pot i a ha).2
theorem sl_updO (s : Sl K pp G H S σ) {p : Addr} {o' : HO} (h : ¬ Owned S σ p) : Sl K pp G (upd H p o') S σ := by
  refine ⟨s.len, fun i sv e => ?_, s.apart⟩
  obtain ⟨o, h1, h2⟩ := s.each i sv e
  refine ⟨o, h1, ?_⟩
  cases sv with
  | un => trivial
  | dat d => exact h2
  | own d =>
    obtain ⟨q, ob, rfl, q1, q2⟩ := h2
    refine ⟨q, ob, rfl, ?_, q2⟩
    rw [upd_ne fun z => h ⟨i, d, e, by rw [← z]; exact h1⟩]
    exact q1
theorem gop_updO {O O2 : Addr → Prop} (c0 : Cf pp ps G H) {p : Addr} {o o' : HO} (hp : H p = some o) (ho : OwnB o = true) (ho' : OwnB o' = true) (hg : G p = none) (np : pp.no p) (hO : O p) (h : ∀ b, O2 b → O b) : GoP pp ps O G H O2 G (upd H p o') := by
  refine ⟨Same.refl G, cf_updO c0 hp ho ho' hg np, fun b u e n => absurd (n.symm.trans e) (by simp), fun b u e np' hb nt => ?_, fun b hb => .inr (h b hb), fun b e => ?_⟩
  · rw [upd_ne fun z => hb (by rw [z]; exact hO)]
    exact e
  · by_cases hb : b = p
    · subst hb
      rw [upd_same] at e
      cases e
    · rw [upd_ne hb] at e
      exact e
theorem StM.put (s : StM K pp ps G H c S σ x dx vs fs) (T : CO K c) {f : Str} {j : Nat} (hf : (TBL.F c)[j]? = some f) (hj : j ≤ fs.length) {v : V} {nf : MF} (hok : FldOk K pp G H x v nf)
    (hnew : ∀ (ds : List PyData) (p : Addr), nf = .own ds → v = .ref p → (∀ (i : Nat) (es : List PyData), i ≠ j → fs[i]? = some (.own es) → vs[i]? ≠ some (.ref p)) ∧ ¬ Owned S σ p) :
    StM K pp ps G (upd H x (.ins (TBL.C c) dx (L2.putF f v ((TBL.F c).zip vs)))) c S σ x dx (putAt j v vs) (putAt j nf fs) ∧
    GoP pp ps (fun b => OM S σ x vs fs b ∨ ∃ ds, nf = .own ds ∧ v = .ref b) G H (OM S σ x (putAt j v vs) (putAt j nf fs)) G (upd H x (.ins (TBL.C c) dx (L2.putF f v ((TBL.F c).zip vs)))) := by
  have hjv : j ≤ vs.length := by rw [s.mx.len]; exact hj
  have own_ : ∀ b, OwM x (putAt j v vs) (putAt j nf fs) b → OwM x vs fs b ∨ ∃ ds, nf = .own ds ∧ v = .ref b := fun b h => by
    rcases h with h | ⟨i, ds, e1, e2⟩
    · exact .inl (.inl h)
    · rw [putAt_get hj] at e1
      rw [putAt_get hjv] at e2
      by_cases e : i = j
      · rw [if_pos e] at e1 e2
        exact .inr ⟨ds, Option.some.inj e1, Option.some.inj e2⟩
      · rw [if_neg e] at e1 e2
        exact .inl (.inr ⟨i, ds, e1, e2⟩)
  refine ⟨⟨cf_updO s.cf s.mx.hx rfl rfl s.mx.hg s.mx.np, sl_updO s.sl (s.ap x (.inl rfl)), s.s0, ⟨s.mx.hs, ?_, s.mx.hg, s.mx.np, ?_, ?_, fun i f' w e1 e2 => ?_, fun i k ds es p e1 e2 e3 e4 => ?_⟩, fun b h => ?_⟩, ?_⟩
  · rw [upd_same, putF_putAt T.nd hf hjv]
  · rw [putAt_len hjv]
    have := (List.getElem?_eq_some_iff.mp hf).1
    have := s.mx.hl
    omega
  · rw [putAt_len hjv, putAt_len hj, s.mx.len]
  · rw [putAt_get hj] at e1
    rw [putAt_get hjv] at e2
    have up : ∀ {w : V} {g : MF}, FldOk K pp G H x w g → FldOk K pp G (upd H x (.ins (TBL.C c) dx (L2.putF f v ((TBL.F c).zip vs)))) x w g := fun {w g} h => by
      cases g with
      | dat d => exact h
      | own ds =>
        obtain ⟨p, us, e, h1, h2⟩ := h
        exact ⟨p, us, e, by rw [upd_ne h2.2.2.1]; exact h1, h2⟩
    by_cases e : i = j
    · rw [if_pos e] at e1 e2
      cases e1
      cases e2
      exact up hok
    · rw [if_neg e] at e1 e2
      exact up (s.mx.each i f' w e1 e2)
  · rw [putAt_get hj] at e1 e2
    rw [putAt_get hjv] at e3 e4
    by_cases y : i = j
    · by_cases z : k = j
      · rw [y, z]
      · rw [if_pos y] at e1 e3
        rw [if_neg z] at e2 e4
        exact absurd e4 ((hnew ds p (Option.some.inj e1) (Option.some.inj e3)).1 k es z e2)
    · by_cases z : k = j
      · rw [if_neg y] at e1 e3
        rw [if_pos z] at e2 e4
        exact absurd e3 ((hnew es p (Option.some.inj e2) (Option.some.inj e4)).1 i ds y e1)
      · rw [if_neg y] at e1 e3
        rw [if_neg z] at e2 e4
        exact s.mx.apart i k ds es p e1 e2 e3 e4
  · rcases own_ b h with h | ⟨ds, e1, e2⟩
    · exact s.ap b h
    · exact (hnew ds b e1 e2).2
  · refine gop_updO s.cf s.mx.hx rfl rfl s.mx.hg s.mx.np (.inl (.inl (.inl rfl))) fun b h => ?_
    rcases h with h | h
    · rcases own_ b h with h | h
      · exact .inl (.inl h)
      · exact .inr h
    · exact .inl (.inr h)
end
section
variable {X : Cx} {c : Str}
theorem StM.fresh {K : PySem.W.Frag} {pp : PP} {ps : Pt} {G H : Hp} {S : Sd} {σ : L2.St} {x dx : Addr} {vs : List V} {fs : List MF} (s : StM K pp ps G H c S σ x dx vs fs) {p : Addr} (h : H p = none) : ¬ OwM x vs fs p ∧ ¬ Owned S σ p := by
  refine ⟨fun z => ?_, fun ⟨i, d, e1, e2⟩ => ?_⟩
  · obtain ⟨_, _, o, h3, _⟩ := s.mx.at_ z
    rw [h] at h3
    cases h3
  · obtain ⟨q, ob, h1, h2, _⟩ := s.sl.own e1
    rw [e2] at h1
    cases h1
    rw [h] at h2
    cases h2
end
end DL
set_option Elab.async false
set_option linter.all false
set_option maxRecDepth 100000
set_option maxHeartbeats 2000000
namespace DL
open PySem L2
variable [TBL]
section
variable {X : Cx} {c : Str}
theorem StM.own {K : PySem.W.Frag} {pp : PP} {ps : Pt} {G H : Hp} {S : Sd} {σ : L2.St} {x dx : Addr} {vs : List V} {fs : List MF} (s : StM K pp ps G H c S σ x dx vs fs) {j : Nat} {ds : List PyData} (hf : fs[j]? = some (.own ds)) : ∃ lr us, vs[j]? = some (.ref lr) ∧ H lr = some (.lst us) ∧ G lr = none ∧ pp.no lr ∧ RvL K pp G us ds := by
  have hj : j < vs.length := by
    rw [s.mx.len]
    exact (List.getElem?_eq_some_iff.mp hf).1
  obtain ⟨p, us, e, h1, h2, h3, _, h5⟩ := s.mx.each j _ _ hf (List.getElem?_eq_getElem hj)
  exact ⟨p, us, by rw [List.getElem?_eq_getElem hj, e], h1, h2, h3, h5⟩
theorem StM.slot {K : PySem.W.Frag} {pp : PP} {ps : Pt} {G H : Hp} {S S0 : Sd} {σ σ2 : L2.St} {x dx : Addr} {vs : List V} {fs : List MF} (s : StM K pp ps G H c S σ x dx vs fs) (sl : Sl K pp G H S0 σ2) (ho : ∀ b, Owned S0 σ2 b → Owned S σ b) (h0 : S0[(0 : Nat)]? = some (.dat slfD)) : StM K pp ps G H c S0 σ2 x dx vs fs :=
  ⟨s.cf, sl, h0, s.mx, fun b h z => s.ap b h (ho b z)⟩
end
end DL
set_option Elab.async false
set_option linter.all false
set_option maxRecDepth 100000
set_option maxHeartbeats 2000000
namespace DL
open PySem L2
variable [TBL]
theorem GoP.imp {pp : PP} {ps : Pt} {O O2 O' O2' : Addr → Prop} {G H G1 H1 : Hp} (g : GoP pp ps O G H O2 G1 H1) (h1 : ∀ b, O b → O' b) (h2 : ∀ b, O2' b → O2 b) : GoP pp ps O' G H O2' G1 H1 :=
  ⟨g.gg, g.cf, fun b o e n => (g.fresh b o e n).imp id (h1 b), fun b o e np nb nt => g.keep b o e np (fun z => nb (h1 b z)) nt, fun b z => (g.own b (h2 b z)).imp id (h1 b), g.there⟩
section
variable {P : Program} {w : World} {K : PySem.W.Frag} {mg : Str → Option Value} {base : Heap}
end
section
variable {X : Cx}
end
end DL
set_option Elab.async false
set_option linter.all false
set_option maxRecDepth 100000
set_option maxHeartbeats 2000000
namespace DL
open PySem L2
def SqK (t : Bool) (h : Heap) (a : Addr) (xs : Array Value) : Prop := if t then h.IsTuple a xs else h.IsList a xs
def ItK (t : Bool) (h : Heap) (i a : Addr) (n : Nat) : Prop := if t then h.IsTupleIter i a n else h.IsListIter i a n
theorem SqK.ext {t : Bool} {h h' : Heap} {a b : Addr} {xs : Array Value} (z : SqK t h a xs) (e : Heap.ExtBut b h h') (ne : a ≠ b) : SqK t h' a xs := by
  cases t
  · exact Heap.IsList.extBut (show h.IsList a xs from z) e ne
  · exact Heap.IsTuple.extBut (show h.IsTuple a xs from z) e ne
theorem ItK.ext {t : Bool} {h h' : Heap} {a b c : Addr} {n : Nat} (z : ItK t h a c n) (e : Heap.ExtBut b h h') (ne : a ≠ b) : ItK t h' a c n := by
  cases t
  · exact Heap.IsListIter.extBut (show h.IsListIter a c n from z) e ne
  · exact Heap.IsTupleIter.extBut (show h.IsTupleIter a c n from z) e ne
theorem ItK.at_ {t : Bool} {h h' : Heap} {a c : Addr} {n : Nat} (z : ItK t h a c n) (e : ∀ o, h.get? a = some o → h'.get? a = some o) : ItK t h' a c n := by
  cases t
  · exact Heap.IsListIter.at (show h.IsListIter a c n from z) e
  · exact Heap.IsTupleIter.at (show h.IsTupleIter a c n from z) e
theorem ItK.obj {t : Bool} {h : Heap} {a c : Addr} {n : Nat} (z : ItK t h a c n) : ∃ o, h.get? a = some o ∧ ∀ v, o.data ≠ .cell v := by
  cases t
  · obtain ⟨o, e, _, d⟩ := (show h.IsListIter a c n from z)
    exact ⟨o, e, fun v q => by rw [d] at q; cases q⟩
  · obtain ⟨o, e, _, d⟩ := (show h.IsTupleIter a c n from z)
    exact ⟨o, e, fun v q => by rw [d] at q; cases q⟩
section
variable {prog : Program} {w : World} {A : Around} {E : Value → Shared → Prop} {s : Shared}
end
end DL
set_option Elab.async false
set_option linter.all false
set_option maxRecDepth 100000
set_option maxHeartbeats 2000000
namespace DL
open PySem L2
def SqV (t : Bool) (K : PySem.W.Frag) (H : Hp) (a : Addr) (xs : List V) : Prop := if t then SqT K H a xs else SqL K H a xs
section
variable {X : Cx} {pins : List (Addr × Obj)} {σ : L2.St} {H : Hp} {s : Shared}
theorem SqV.at_ {t : Bool} {a : Addr} {xs : List V} (I : Inv X pins σ H s) (h : SqV t X.K H a xs) : ∃ its : List Value, Vals xs its ∧ SqK t s.heap a its.toArray ∧ a < s.heap.objs.size := by
  cases t
  · obtain ⟨its, rv, pa, _⟩ := I.list (show SqL X.K H a xs from h)
    exact ⟨its, rv, pa.isList, pa.lt⟩
  · obtain ⟨its, rv, pa, _⟩ := I.tuple (show SqT X.K H a xs from h)
    obtain ⟨o, e, r⟩ := id pa
    exact ⟨its, rv, pa, Heap.lt_size e⟩
theorem SqV.inj {t : Bool} {a : Addr} {xs ys : List V} (I : Inv X pins σ H s) (h : SqV t X.K H a xs) (h' : SqV t X.K H a ys) : xs = ys := by
  cases t
  · exact I.list_inj (show SqL X.K H a xs from h) (show SqL X.K H a ys from h')
  · exact I.tuple_inj (show SqT X.K H a xs from h) (show SqT X.K H a ys from h')
end
section
variable {prog : Program} {w : World} {A : Around} {E : Value → Shared → Prop} {s : Shared}
end
end DL
set_option Elab.async false
set_option linter.all false
set_option maxRecDepth 100000
set_option maxHeartbeats 2000000
namespace DL
open PySem L2
section
variable {prog : Program} {w : World} {A : Around} {E : Value → Shared → Prop} {s : Shared}
end
section
variable {X : Cx}
end
section
variable [TBL] {X : Cx}
end
end DL
set_option Elab.async false
set_option linter.all false
set_option maxRecDepth 100000
set_option maxHeartbeats 2000000
namespace DL
open PySem L2 PyProof.Rows
variable [TBL]
section
variable {X : Cx}
end
end DL
set_option Elab.async false
set_option linter.all false
set_option maxRecDepth 100000
set_option maxHeartbeats 2000000
namespace DL
open PySem L2
variable [TBL]
section
variable {X : Cx} {pins : List (Addr × Obj)} {σ : L2.St} {H G : Hp} {s : Shared} {pp : PP}
end
section
variable {prog : Program} {w : World} {A : Around} {E : Value → Shared → Prop} {s : Shared}
end
end DL
set_option Elab.async false
set_option linter.all false
set_option maxRecDepth 100000
set_option maxHeartbeats 2000000
namespace DL
open PySem L2
variable [TBL]
section
variable {X : Cx}
end
end DL
set_option Elab.async false
set_option linter.all false
set_option maxRecDepth 100000
set_option maxHeartbeats 2000000
namespace DL
open PySem L2 PyProof.Rows
section
variable {prog : Program} {w : World} {A : Around} {E : Value → Shared → Prop} {s : Shared}
end
end DL
set_option Elab.async false
set_option linter.all false
set_option maxRecDepth 100000
set_option maxHeartbeats 2000000
namespace DL
open PySem L2 PyProof.Rows
section
variable {prog : Program} {w : World} {A : Around} {E : Value → Shared → Prop} {s : Shared}
end
section
variable {X : Cx}
end
section
variable [TBL] {X : Cx}
end
end DL
set_option Elab.async false
set_option linter.all false
set_option maxRecDepth 100000
set_option maxHeartbeats 2000000
namespace DL
open PySem L2
variable [TBL]
section
variable {X : Cx}
end
end DL
set_option Elab.async false
set_option linter.all false
set_option maxRecDepth 100000
set_option maxHeartbeats 2000000
namespace DL
open PySem PySem.Spec PyProof.Rows L2
variable [TBL]
section
variable {X : Cx}
end
end DL
set_option Elab.async false
set_option linter.all false
set_option maxRecDepth 100000
set_option maxHeartbeats 2000000
namespace DL
open PySem L2
variable [TBL]
section
variable {X : Cx}
end
end DL
set_option Elab.async false
set_option linter.all false
set_option maxRecDepth 100000
set_option maxHeartbeats 3200000
namespace DL
open PySem PySem.Spec PyProof.Rows L2
abbrev NE := Addr × NestedKey
def Nk (h : Heap) (e : NE) : Prop := NestedIs h e.2 (.ref e.1) ∧ e.2.depth ≤ 8
section
variable {P : Program} {w : World} {A : Around} {E : Value → Shared → Prop} {s : Shared}
abbrev hN (w : World) (e : NE) : Int := e.2.hash w
structure TS (w : World) (h : Heap) (a : Addr) (L : List NE) (es : Array (Int × Value)) (ep : Nat) (t : SetTable) : Prop where
  ob : ∃ o, h.get? a = some o ∧ o.ExactSet ∧ o.data = .set es ep t
  rows : es.toList = L.map fun e => (hN w e, Value.ref e.1)
  tab : TabOk t (L.map (hN w))
  nd : (L.map (·.2)).Nodup
  isk : ∀ e ∈ L, Nk h e
  led : w.params.followText "set-order" = true ∨ t.led = true
  room : L.length * 5 < t.mask * 3
  few : L.length < 64
variable {a : Addr} {L : List NE} {es : Array (Int × Value)} {ep : Nat} {t : SetTable}
theorem TS.len (R : TS w s.heap a L es ep t) : es.size = L.length := by
  rw [← Array.length_toList, R.rows, List.length_map]
theorem TS.at (R : TS w s.heap a L es ep t) {i : Nat} {e : NE} (h : L[i]? = some e) : es[i]? = some (hN w e, Value.ref e.1) := by
  rw [← Array.getElem?_toList, R.rows, List.getElem?_map, h]
  rfl
end
end DL
set_option Elab.async false
set_option linter.all false
set_option maxRecDepth 100000
set_option maxHeartbeats 3200000
namespace DL
open PySem PySem.Spec PyProof.Rows L2
section
variable {P : Program} {w : World} {A : Around} {E : Value → Shared → Prop} {s : Shared}
theorem Nk.same {h h' : Heap} {a : Addr} {o : Obj} {es : Array (Int × Value)} {ep : Nat} {t : SetTable} {e : NE} (k : Nk h e) (ho : h.get? a = some o) (hd : o.data = .set es ep t) (sb : Heap.SameBut a h h') : Nk h' e :=
  ⟨NestedIs.at (fun c u vs n hc hu => (sb.2 c fun z => by
    subst z
    rw [ho] at hc
    cases hc
    rw [hd] at hu
    cases hu).trans hc) _ _ k.1, k.2⟩
variable {a : Addr} {L : List NE} {es : Array (Int × Value)} {ep : Nat} {t : SetTable}
end
end DL
set_option Elab.async false
set_option linter.all false
set_option maxRecDepth 100000
set_option maxHeartbeats 3200000
namespace DL
open PySem PySem.Spec PySem.W PyProof.Rows L2 PySem.SeqAt
section
variable {prog : Program} {w : World} {A : Around} {E : Value → Shared → Prop} {s : Shared}
end
end DL
set_option Elab.async false
set_option linter.all false
set_option maxRecDepth 100000
set_option maxHeartbeats 3200000
namespace DL
open PySem PySem.Spec PyProof.Rows L2
section
variable {P : Program} {w : World} {A : Around} {E : Value → Shared → Prop} {s : Shared}
theorem Nk.kept {h h' : Heap} {e : NE} (k : Nk h e) (hk : ∀ b o, h.get? b = some o → h'.get? b = some o) : Nk h' e := ⟨NestedIs.at (fun c u vs n hc _ => hk c u hc) _ _ k.1, k.2⟩
theorem TS.kept {h h' : Heap} {a : Addr} {L : List NE} {es : Array (Int × Value)} {ep : Nat} {t : SetTable} (R : TS w h a L es ep t) (ha : ∀ o, h.get? a = some o → h'.get? a = some o) (hk : ∀ e ∈ L, Nk h' e) : TS w h' a L es ep t := by
  obtain ⟨o, ho, r⟩ := R.ob
  exact ⟨⟨o, ha o ho, r⟩, R.rows, R.tab, R.nd, hk, R.led, R.room, R.few⟩
end
end DL
set_option Elab.async false
set_option linter.all false
set_option maxRecDepth 100000
set_option maxHeartbeats 3200000
namespace DL
open PySem PySem.Spec PyProof.Rows L2
section
variable {P : Program} {w : World} {A : Around} {E : Value → Shared → Prop} {s : Shared}
end
end DL
set_option Elab.async false
set_option linter.all false
set_option maxRecDepth 100000
set_option maxHeartbeats 3200000
namespace DL
open PySem PySem.Spec PyProof.Rows L2
variable [TBL]
section
variable {X : Cx} {pins : List (Addr × Obj)} {σ : L2.St} {H G : Hp} {s : Shared} {pp : PP}
end
section
variable {X : Cx}
end
end DL
set_option Elab.async false
set_option linter.all false
set_option maxRecDepth 100000
set_option maxHeartbeats 3200000
namespace DL
open PySem L2 RZ
section
variable {prog : Program} {w : World} {A : Around} {E : Value → Shared → Prop} {s : Shared}
end
section
variable {prog : Program} {w : World} {A : Around} {E : Value → Shared → Prop} {s : Shared}
end
section
variable {prog : Program} {w : World} {A : Around} {E : Value → Shared → Prop} {s : Shared}
end
section
variable {X : Cx}
end
section
variable [TBL] {X : Cx}
end
end DL
set_option Elab.async false
set_option linter.all false
set_option maxRecDepth 100000
set_option maxHeartbeats 2000000
namespace DL
open PySem L2
variable [TBL]
section
variable {X : Cx} {pins : List (Addr × Obj)} {σ : L2.St} {H G : Hp} {s : Shared} {pp : PP}
end
section
variable {pp : PP} {q : Pt} {G0 H0 G1 H1 : Hp}
end
section
variable {X : Cx}
end
section
variable {X : Cx}
end
end DL
set_option Elab.async false
set_option linter.all false
set_option maxRecDepth 100000
set_option maxHeartbeats 2000000
namespace DL
open PySem PySem.W PySem.Calls PyProof.Rows PyProof.V PySem.Spec L2
variable [TBL]
section
variable {X : Cx}
end
end DL
set_option Elab.async false
set_option linter.all false
set_option maxRecDepth 100000
set_option maxHeartbeats 2000000
namespace PL
open PySem L2 DL
local instance : TBL := ⟨[], fun _ => 0, fun _ => [], fun _ => none, w00⟩
theorem aCons_two {g1 g2 : EG} {S0 : Sd} {p p1 p2 : Pt} {x y : PyData} (h1 : g1 S0 p = some (x, p1)) (h2 : g2 S0 p1 = some (y, p2)) : aCons g1 (aCons g2 aNil) S0 p = some ([x, y], p2) := by
  simp only [aCons, aNil, h1, h2, bindP_some]
theorem aCons_one {g1 : EG} {S0 : Sd} {p p1 : Pt} {x : PyData} (h1 : g1 S0 p = some (x, p1)) : aCons g1 aNil S0 p = some ([x], p1) := by
  simp only [aCons, aNil, h1, bindP_some]
theorem fits_of {ds : List PyData} (h : ds.length ≤ 1000) : fitsL ds = true := decide_eq_true (by omega)
theorem sSeq_nx {a b : SG} {S S1 : Sd} {ps p : Pt} (h : a S ps = some (.nx S1, p)) : sSeq a b S ps = b S1 p := by
  unfold sSeq
  rw [h]
theorem sSeq_rt {a b : SG} {S : Sd} {ps p : Pt} {d : PyData} (h : a S ps = some (.rt d, p)) : sSeq a b S ps = some (.rt d, p) := by
  unfold sSeq
  rw [h]
theorem sIf_at {t : BG} {a b : SG} {S : Sd} {ps p : Pt} {x : Bool} (h : t S ps = some (x, p)) : sIf t a b S ps = if x then a S p else b S p := by
  unfold sIf
  rw [h]
  rfl
theorem bNot_at {g : BG} {S : Sd} {ps p : Pt} {b : Bool} (h : g S ps = some (b, p)) : bNot g S ps = some (!b, p) := by
  unfold bNot
  rw [h]
  rfl
theorem bOr_at {g h : BG} {S : Sd} {ps p p2 : Pt} {b c : Bool} (h1 : g S ps = some (b, p)) (h2 : b = false → h S p = some (c, p2)) (h3 : b = true → p = p2) : bOr g h S ps = some (b || c, p2) := by
  unfold bOr
  rw [h1]
  cases b with
  | true =>
    cases h3 rfl
    rfl
  | false => exact h2 rfl
theorem eAnd_at {g h : EG} {S : Sd} {ps : Pt} {b c : Bool} (h1 : g S ps = some (.bool b, ps)) (h2 : b = true → h S ps = some (.bool c, ps)) : eAndV g h S ps = some (.bool (b && c), ps) := by
  unfold eAndV
  rw [h1]
  cases b with
  | true => exact h2 rfl
  | false => rfl
theorem asB_at {g : EG} {S : Sd} {ps p : Pt} {b : Bool} (h : g S ps = some (.bool b, p)) : asB g S ps = some (b, p) := by
  unfold asB
  rw [h]
theorem eUn_at {o : PyData → Option PyData} {g : EG} {S : Sd} {ps p : Pt} {x d : PyData} (h : g S ps = some (x, p)) (ho : o x = some d) : eUn o g S ps = some (d, p) := by
  unfold eUn
  rw [h, bindP_some, ho]
  rfl
theorem eOp_at {o : PyData → PyData → Option PyData} {g h : EG} {S : Sd} {ps p p2 : Pt} {x y d : PyData} (h1 : g S ps = some (x, p)) (h2 : h S p = some (y, p2)) (ho : o x y = some d) : eOp o g h S ps = some (d, p2) := by
  unfold eOp
  rw [h1, bindP_some, h2, bindP_some, ho]
  rfl
theorem eCB_at {o : List PyData → Option PyData} {gs : AG} {S : Sd} {ps p : Pt} {ds : List PyData} {d : PyData} (h : gs S ps = some (ds, p)) (ho : o ds = some d) : eCB o gs S ps = some (d, p) := by
  unfold eCB
  rw [h, bindP_some, ho]
  rfl
theorem eCall_at {f : List PyData → Pt → Option (PyData × Pt)} {gs : AG} {S : Sd} {ps p p2 : Pt} {ds : List PyData} {d : PyData} (h : gs S ps = some (ds, p)) (ho : f ds p = some (d, p2)) : eCall f gs S ps = some (d, p2) := by
  unfold eCall
  rw [h, bindP_some, ho]
theorem run_rt {n : Nat} {g : SG} {ds : List PyData} {ps p : Pt} {d : PyData} (h : g (startD n ds) ps = some (.rt d, p)) : runF n g ds ps = some (d, p) := by
  unfold runF
  rw [h]
theorem sRet_at {g : EG} {S : Sd} {ps p : Pt} {d : PyData} (h : g S ps = some (d, p)) : sRet g S ps = some (.rt d, p) := by
  unfold sRet
  rw [h]
  rfl
theorem sSet_at {i : Nat} {g : EG} {S : Sd} {ps p : Pt} {d : PyData} (h : g S ps = some (d, p)) : sSet i g S ps = some (.nx (S.set i (.dat d)), p) := by
  unfold sSet
  rw [h]
  rfl
theorem lc_enc {α : Type} {e : α → PyData} {it : AG} {t : Tgt} {test : BG} {elt : EG} {vs : List Nat} {S0 : Sd} {ps : Pt} {xs : List α} {g : α → PyData} (hi : it S0 ps = some (xs.map e, ps)) (hl : xs.length ≤ 1000) (h : ∀ x ∈ xs, lcStep t test elt (wipeD S0 vs) (e x) ps = some (some (g x), ps)) :
    eLc it t test elt vs S0 ps = some (.list (xs.map g), ps) := by
  unfold eLc
  rw [hi, bindP_some, if_pos (fits_of (by rw [List.length_map]; exact hl))]
  have key : ∀ (ys : List α) (acc : List PyData), (∀ y ∈ ys, y ∈ xs) → lcGo (lcStep t test elt (wipeD S0 vs)) (ys.map e) ps acc = some (acc ++ ys.map g, ps) := by
    intro ys
    induction ys with
    | nil => intro acc _; simp [lcGo]
    | cons y r ih =>
      intro acc hy
      rw [List.map_cons]
      unfold lcGo
      rw [h y (hy y List.mem_cons_self), bindP_some, ih _ fun z hz => hy z (List.mem_cons_of_mem _ hz)]
      simp
  rw [key xs [] fun y hy => hy, bindP_some]
  simp
theorem lcS_at {t : Tgt} {elt : EG} {S S1 : Sd} {x y : PyData} {ps : Pt} (ht : t x S = some S1) (he : elt S1 ps = some (y, ps)) : lcStep t bYes elt S x ps = some (some y, ps) := by
  unfold lcStep
  rw [ht]
  simp only [bYes, bindP_some, he, if_true]
theorem lc_dat {it : AG} {t : Tgt} {test : BG} {elt : EG} {vs : List Nat} {S0 : Sd} {ps : Pt} {ds : List PyData} {g : PyData → Option PyData} (hi : it S0 ps = some (ds, ps)) (hl : ds.length ≤ 1000) (h : ∀ d ∈ ds, lcStep t test elt (wipeD S0 vs) d ps = some (g d, ps)) :
    eLc it t test elt vs S0 ps = some (.list (ds.filterMap g), ps) := by
  unfold eLc
  rw [hi, bindP_some, if_pos (fits_of hl)]
  have key : ∀ (ys acc : List PyData), (∀ y ∈ ys, y ∈ ds) → lcGo (lcStep t test elt (wipeD S0 vs)) ys ps acc = some (acc ++ ys.filterMap g, ps) := by
    intro ys
    induction ys with
    | nil => intro acc _; simp [lcGo]
    | cons y r ih =>
      intro acc hy
      unfold lcGo
      rw [h y (hy y List.mem_cons_self), bindP_some, ih _ fun z hz => hy z (List.mem_cons_of_mem _ hz)]
      cases q : g y with
      | none => simp [List.filterMap_cons, q]
      | some w => simp [List.filterMap_cons, q]
  rw [key ds [] fun y hy => hy, bindP_some]
  simp
theorem bools_map {α : Type} (f : α → Bool) (xs : List α) : bools (xs.map fun x => PyData.bool (f x)) = some (xs.map f) := by
  induction xs with
  | nil => rfl
  | cons x r ih =>
    show (bools (r.map fun x => PyData.bool (f x))).map (f x :: ·) = _
    rw [ih]
    rfl
mutual
def wf (w : Nat) : PyData → Bool
  | .none => true
  | .bool _ => true
  | .int i => decide (i.natAbs.log2 < 1000)
  | .str z => PyData.strOk z && decide ((reprText z).length ≤ 6010) && decide (z.length ≤ 600)
  | .list ds => decide (ds.length ≤ w) && wfL w ds
  | .tuple ds => decide (ds.length ≤ w) && wfL w ds
  | .dict es => es.isEmpty
def wfL (w : Nat) : List PyData → Bool
  | [] => true
  | d :: ds => wf w d && wfL w ds
end
theorem wfL_iff {w : Nat} : ∀ {ds : List PyData}, wfL w ds = true ↔ ∀ d ∈ ds, wf w d = true
  | [] => by simp [wfL]
  | d :: ds => by
    rw [wfL, Bool.and_eq_true, wfL_iff]
    simp
theorem wf_tup {w : Nat} {ds : List PyData} : wf w (.tuple ds) = true ↔ ds.length ≤ w ∧ ∀ d ∈ ds, wf w d = true := by
  rw [wf, Bool.and_eq_true, decide_eq_true_eq, wfL_iff]
theorem wf_lst {w : Nat} {ds : List PyData} : wf w (.list ds) = true ↔ ds.length ≤ w ∧ ∀ d ∈ ds, wf w d = true := by
  rw [wf, Bool.and_eq_true, decide_eq_true_eq, wfL_iff]
theorem wf_str {w : Nat} {z : Str} (h : wf w (.str z) = true) : PyData.strOk z = true ∧ z.length ≤ 600 := by
  rw [wf, Bool.and_eq_true, Bool.and_eq_true] at h
  exact ⟨h.1.1, of_decide_eq_true h.2⟩
theorem wf_dict {w : Nat} {es : List (PyData × PyData)} (h : wf w (.dict es) = true) : es = [] := by
  rw [wf] at h
  exact List.isEmpty_iff.mp h
def isI : PyData → Bool
  | .int _ => true
  | .bool _ => true
  | _ => false
def isB : PyData → Bool
  | .bool _ => true
  | _ => false
def isS : PyData → Bool
  | .str _ => true
  | _ => false
def isT : PyData → Bool
  | .tuple _ => true
  | _ => false
theorem isi_int {w : Nat} {d : PyData} (h : wf w d = true) : isiD "int" d = some (.bool (isI d)) := by
  cases d with
  | dict es =>
    cases wf_dict h
    have : kitB "dict" "int" = some false := by decide +kernel
    simp [isiD, tyName, potD1, this, isI]
  | none => have : kitB "NoneType" "int" = some false := by decide +kernel
            simp [isiD, tyName, this, isI]
  | bool b => have : kitB "bool" "int" = some true := by decide +kernel
              simp [isiD, tyName, this, isI]
  | int i => have : kitB "int" "int" = some true := by decide +kernel
             simp [isiD, tyName, this, isI]
  | str z => have : kitB "str" "int" = some false := by decide +kernel
             simp [isiD, tyName, this, isI]
  | list l => have : kitB "list" "int" = some false := by decide +kernel
              simp [isiD, tyName, this, isI]
  | tuple l => have : kitB "tuple" "int" = some false := by decide +kernel
               simp [isiD, tyName, this, isI]
theorem isi_bool {w : Nat} {d : PyData} (h : wf w d = true) : isiD "bool" d = some (.bool (isB d)) := by
  cases d with
  | dict es =>
    cases wf_dict h
    have : kitB "dict" "bool" = some false := by decide +kernel
    simp [isiD, tyName, potD1, this, isB]
  | none => have : kitB "NoneType" "bool" = some false := by decide +kernel
            simp [isiD, tyName, this, isB]
  | bool b => have : kitB "bool" "bool" = some true := by decide +kernel
              simp [isiD, tyName, this, isB]
  | int i => have : kitB "int" "bool" = some false := by decide +kernel
             simp [isiD, tyName, this, isB]
  | str z => have : kitB "str" "bool" = some false := by decide +kernel
             simp [isiD, tyName, this, isB]
  | list l => have : kitB "list" "bool" = some false := by decide +kernel
              simp [isiD, tyName, this, isB]
  | tuple l => have : kitB "tuple" "bool" = some false := by decide +kernel
               simp [isiD, tyName, this, isB]
theorem isi_str {w : Nat} {d : PyData} (h : wf w d = true) : isiD "str" d = some (.bool (isS d)) := by
  cases d with
  | dict es =>
    cases wf_dict h
    have : kitB "dict" "str" = some false := by decide +kernel
    simp [isiD, tyName, potD1, this, isS]
  | none => have : kitB "NoneType" "str" = some false := by decide +kernel
            simp [isiD, tyName, this, isS]
  | bool b => have : kitB "bool" "str" = some false := by decide +kernel
              simp [isiD, tyName, this, isS]
  | int i => have : kitB "int" "str" = some false := by decide +kernel
             simp [isiD, tyName, this, isS]
  | str z => have : kitB "str" "str" = some true := by decide +kernel
             simp [isiD, tyName, this, isS]
  | list l => have : kitB "list" "str" = some false := by decide +kernel
              simp [isiD, tyName, this, isS]
  | tuple l => have : kitB "tuple" "str" = some false := by decide +kernel
               simp [isiD, tyName, this, isS]
theorem isi_tup {w : Nat} {d : PyData} (h : wf w d = true) : isiD "tuple" d = some (.bool (isT d)) := by
  cases d with
  | dict es =>
    cases wf_dict h
    have : kitB "dict" "tuple" = some false := by decide +kernel
    simp [isiD, tyName, potD1, this, isT]
  | none => have : kitB "NoneType" "tuple" = some false := by decide +kernel
            simp [isiD, tyName, this, isT]
  | bool b => have : kitB "bool" "tuple" = some false := by decide +kernel
              simp [isiD, tyName, this, isT]
  | int i => have : kitB "int" "tuple" = some false := by decide +kernel
             simp [isiD, tyName, this, isT]
  | str z => have : kitB "str" "tuple" = some false := by decide +kernel
             simp [isiD, tyName, this, isT]
  | list l => have : kitB "list" "tuple" = some false := by decide +kernel
              simp [isiD, tyName, this, isT]
  | tuple l => have : kitB "tuple" "tuple" = some true := by decide +kernel
               simp [isiD, tyName, this, isT]
def RES : List Str := [Str.ofString "call", Str.ofString "do", Str.ofString "either", Str.ofString "else", Str.ofString "end", Str.ofString "endless", Str.ofString "form", Str.ofString "frame", Str.ofString "function", Str.ofString "handler", Str.ofString "house", Str.ofString "kind", Str.ofString "limit", Str.ofString "loop", Str.ofString "most", Str.ofString "now", Str.ofString "or", Str.ofString "returns", Str.ofString "room", Str.ofString "shut", Str.ofString "size", Str.ofString "stop", Str.ofString "take", Str.ofString "task", Str.ofString "times"]
def LET : Str := Str.ofString "abcdefghijklmnopqrstuvwxyz"
def kRES : PyData := .tuple (RES.map .str)
def kLET : PyData := .str LET
def kMOST : PyData := .int 8
def qg_is_integer : SG := (sRet (eAndV (eUn (isiD "int") (eVar 0)) (eAndV (eNotV (eUn (isiD "bool") (eVar 0))) (eOp geI (eVar 0) (eVar 1)))))
def q_is_integer : List PyData → Pt → Option (PyData × Pt) := runF 2 qg_is_integer
def qg_is_rising : SG := (sRet (eCB (one allD) (aCons (eLc (iZipD (aCons (eVar 0) (aCons (eSl (eVar 0) (oSome (eC (.int 1))) oNone) aNil))) (tTup 2 (tlCons (tName 1) (tlCons (tName 2) tlNil))) bYes (eOp ltS (eVar 1) (eVar 2)) [1, 2]) aNil)))
def q_is_rising : List PyData → Pt → Option (PyData × Pt) := runF 3 qg_is_rising
def qg_is_name : SG := (sSeq (sIf (bOr (bNot (asB (eUn (isiD "str") (eVar 0)))) (bNot (bChain leI leI (eC (.int 1)) (eCB (one lenD) (aCons (eVar 0) aNil)) (eC kMOST)))) (sRet (eC (.bool false))) sNil) (sRet (eAndV (eOp (inD true) (eVar 0) (eC kRES)) (eCB (one allD) (aCons (eLc (iStrD (eVar 0)) (tName 1) bYes (eOp (inS false) (eVar 1) (eC kLET)) [1]) aNil)))))
def q_is_name : List PyData → Pt → Option (PyData × Pt) := runF 2 qg_is_name
def qg_is_part : SG := (sRet (eAndV (eUn (isiD "tuple") (eVar 0)) (eAndV (eOp eqD (eCB (one lenD) (aCons (eVar 0) aNil)) (eC (.int 2))) (eAndV (eCall q_is_name (aCons (eOp ixD (eVar 0) (eC (.int 0))) aNil)) (eCall q_is_integer (aCons (eOp ixD (eVar 0) (eC (.int 1))) (aCons (eC (.int 1)) aNil)))))))
def q_is_part : List PyData → Pt → Option (PyData × Pt) := runF 1 qg_is_part
def qg_is_line : SG := (sSeq (sIf (bOr (bNot (asB (eUn (isiD "tuple") (eVar 0)))) (bNot (asB (eCB (one allD) (aCons (eLc (iOf (eVar 0)) (tName 3) bYes (eCall q_is_part (aCons (eVar 3) aNil)) [3]) aNil))))) (sRet (eC (.bool false))) sNil) (sRet (eCall q_is_rising (aCons (eLc (iOf (eVar 0)) (tTup 2 (tlCons (tName 1) (tlCons (tName 2) tlNil))) bYes (eVar 1) [1, 2]) aNil))))
def q_is_line : List PyData → Pt → Option (PyData × Pt) := runF 4 qg_is_line
def qg_want_lines : SG := (sFor (iOf (eVar 0)) (tName 1) (sIf (bNot (asB (eCall q_is_line (aCons (eVar 1) aNil)))) (sRaise (Str.ofString "InvalidLine") [Str.ofString "value"] (aCons (eVar 1) aNil)) sNil))
def q_want_lines : List PyData → Pt → Option (PyData × Pt) := runF 2 qg_want_lines
def qg_pick : SG := (sRet (eOp ixD (eVar 1) (eCall drawFW (aCons (eVar 0) (aCons (eCB (one lenD) (aCons (eVar 1) aNil)) aNil)))))
def q_pick : List PyData → Pt → Option (PyData × Pt) := runF 2 qg_pick
def q_pot : List PyData → Pt → Option (List PyData × Pt) := runN 3 (sSet 2 (eIf (asB (eOp ltI (eVar 1) (eCB (one lenD) (aCons (eVar 0) aNil)))) (eCB (one absD) (aCons (eOp ixD (eVar 0) (eVar 1)) aNil)) (eOp addD (eOp mulI (eC (.int 7)) (eVar 1)) (eC (.int 3))))) (aCons (eCB max2 (aCons (eC (.int 0)) (aCons (eOp subI (eVar 2) (eOp powI (eC (.int 10)) (eC (.int 18)))) aNil))) (aCons (eOp modI (eCB (one intD) (aCons (eOp addD (eOp addD (eOp mulI (eOp modI (eCB (one intD) (aCons (eVar 2) aNil)) (eC (.int 2147483629))) (eC (.int 48271))) (eOp mulI (eC (.int 60029)) (eVar 1))) (eC (.int 31))) aNil)) (eC (.int 2147483647))) aNil))
def isInt (l : Int) : PyData → Bool
  | .int i => decide (l ≤ i)
  | _ => false
theorem is_integer {w : Nat} {d : PyData} (l : Int) (ps : Pt) (h : wf w d = true) : q_is_integer [d, .int l] ps = some (.bool (isInt l d), ps) := by
  show runF 2 qg_is_integer [d, .int l] ps = _
  have e1 := isi_int h
  have e2 := isi_bool h
  have e3 : ∀ i : Int, geI (.int i) (.int l) = some (.bool (decide (l ≤ i))) := fun _ => rfl
  cases d <;> simp [runF, qg_is_integer, sRet, eAndV, eNotV, eUn, eVar, startD, bindP, e1, e2, isI, isB, isInt, eOp, e3]
def nameS (z : Str) : Bool := decide ((1 : Int) ≤ z.length) && (decide ((z.length : Int) ≤ 8) && (!decide (z ∈ RES) && z.cps.toList.all fun c => decide (c ∈ LET.cps.toList)))
def nameOk : PyData → Bool
  | .str z => nameS z
  | _ => false
theorem any_strs (l : List Str) (z : Str) : (l.map PyData.str).any (fun y => PyData.eqv y (.str z)) = decide (z ∈ l) := by
  induction l with
  | nil => simp
  | cons y r ih =>
    rw [List.map_cons, List.any_cons, ih]
    by_cases h : y = z
    · subst h
      simp [PyData.eqv]
    · have h2 : ¬ z = y := fun e => h e.symm
      simp [PyData.eqv, h, h2]
theorem shaped_str {z : Str} (h : PyData.strOk z = true) : SeqAt.shaped (.str z) = true := by
  show (PyData.canLay0 (.str z) && decide ((PyData.str z).depth ≤ 64)) = true
  simp [PyData.canLay0, PyData.depth, h]
theorem lc_letters (z : Str) (x1 : SV) (ps : Pt) (hl : z.length ≤ 600) (L : PyData) (hL : L = .str LET) : eLc (iStrD (eVar 0)) (tName 1) bYes (eOp (inS false) (eVar 1) (eC L)) [1] [.dat (.str z), x1] ps = some (.list (z.cps.toList.map fun c => PyData.bool (decide (c ∈ LET.cps.toList))), ps) := by
  subst hL
  have hlen : z.cps.toList.length ≤ 1000 := by
    have : z.cps.toList.length = z.length := by simp [Str.length]
    omega
  exact lc_enc (e := fun c => .str ⟨#[c]⟩) (xs := z.cps.toList) rfl hlen fun c _ => lcS_at (S1 := [.dat (.str z), .dat (.str ⟨#[c]⟩)]) rfl (eOp_at rfl rfl rfl)
theorem allD_bools {α : Type} (f : α → Bool) (xs : List α) : one allD [.list (xs.map fun x => PyData.bool (f x))] = some (.bool (xs.all f)) := by
  show (bools (xs.map fun x => PyData.bool (f x))).map _ = _
  rw [bools_map]
  simp
theorem chain_len (z : Str) (S0 : Sd) (ps : Pt) (g8 : EG) (h0 : S0[0]? = some (.dat (.str z))) (h8 : g8 S0 ps = some (.int 8, ps)) (hl : z.length ≤ 600) : bChain leI leI (eC (.int 1)) (eCB (one lenD) (aCons (eVar 0) aNil)) g8 S0 ps = some (decide ((1 : Int) ≤ z.length) && decide ((z.length : Int) ≤ 8), ps) := by
  have e1 : lenD (.str z) = some (.int z.length) := by
    show (if decide (z.length ≤ 16777216) then _ else _) = _
    rw [if_pos (decide_eq_true (by omega))]
  have e2 : ∀ i j : Int, leI (.int i) (.int j) = some (.bool (decide (i ≤ j))) := fun _ _ => rfl
  have e3 : eVar 0 S0 ps = some (.str z, ps) := by
    unfold eVar
    rw [h0]
  unfold bChain
  simp only [eC, bindP_some, eCB, aCons_one e3, one, e1, Option.map_some, e2]
  by_cases hz : (1 : Int) ≤ z.length
  · simp only [decide_eq_true hz, h8, bindP_some, Bool.true_and, e2]
  · simp only [decide_eq_false hz, Bool.false_and]
theorem is_name {w : Nat} {d : PyData} (ps : Pt) (h : wf w d = true) : q_is_name [d] ps = some (.bool (nameOk d), ps) := by
  apply run_rt
  show qg_is_name [.dat d, .un] ps = _
  have e1 : asB (eUn (isiD "str") (eVar 0)) [.dat d, .un] ps = some (isS d, ps) := asB_at (eUn_at rfl (isi_str h))
  cases hs : isS d with
  | true =>
    cases d with
    | str z =>
      obtain ⟨h1, h2⟩ := wf_str h
      have t1 := bOr_at (h := bNot (bChain leI leI (eC (.int 1)) (eCB (one lenD) (aCons (eVar 0) aNil)) (eC kMOST))) (bNot_at e1) (fun _ => bNot_at (chain_len z [.dat (.str z), .un] ps (eC kMOST) rfl rfl h2)) (fun _ => rfl)
      have e3 : inD true (.str z) kRES = some (.bool (!decide (z ∈ RES))) := by
        show (if SeqAt.shaped (.str z) && SeqAt.shaped kRES then some (PyData.bool (!((RES.map PyData.str).any fun y => PyData.eqv y (.str z)))) else none) = _
        have hk : SeqAt.shaped kRES = true := by decide +kernel
        rw [shaped_str h1, hk, any_strs]
        rfl
      have e5 := eAnd_at (eOp_at (g := eVar 0) (h := eC kRES) (S := [.dat (.str z), .un]) (ps := ps) rfl rfl e3) fun _ => eCB_at (aCons_one (lc_letters z .un ps h2 kLET rfl)) (allD_bools _ _)
      unfold qg_is_name
      cases hc : (decide ((1 : Int) ≤ z.length) && decide ((z.length : Int) ≤ 8)) with
      | true =>
        rw [hc] at t1
        rw [sSeq_nx (S1 := [.dat (.str z), .un]) (p := ps) (by rw [sIf_at t1]; rfl), sRet_at e5]
        have : nameS z = (!decide (z ∈ RES) && z.cps.toList.all fun c => decide (c ∈ LET.cps.toList)) := by
          unfold nameS
          rw [← Bool.and_assoc, hc, Bool.true_and]
        rw [nameOk, this]
      | false =>
        rw [hc] at t1
        rw [sSeq_rt (d := .bool false) (p := ps) (by rw [sIf_at t1]; rfl)]
        have : nameS z = false := by
          unfold nameS
          rw [← Bool.and_assoc, hc, Bool.false_and]
        rw [nameOk, this]
    | _ => cases hs
  | false =>
    have hn : nameOk d = false := by
      cases d <;> first | rfl | cases hs
    rw [hs] at e1
    have t1 := bOr_at (h := bNot (bChain leI leI (eC (.int 1)) (eCB (one lenD) (aCons (eVar 0) aNil)) (eC kMOST))) (c := true) (p2 := ps) (bNot_at e1) (fun z => by cases z) (fun _ => rfl)
    unfold qg_is_name
    rw [sSeq_rt (d := .bool false) (p := ps) (by rw [sIf_at t1]; rfl), hn]
def ltB (a b : Str) : Bool := decide (a.cps.toList < b.cps.toList)
def ascS (zs : List Str) : Bool := (zs.zip (zs.drop 1)).all fun p => ltB p.1 p.2
theorem is_rising (zs : List Str) (ps : Pt) (hl : zs.length ≤ 1000) : q_is_rising [.list (zs.map .str)] ps = some (.bool (ascS zs), ps) := by
  apply run_rt
  show qg_is_rising [.dat (.list (zs.map .str)), .un, .un] ps = _
  have hcut : cutL (zs.map PyData.str) (some 1) none = (zs.drop 1).map PyData.str := by
    unfold cutL
    rw [show HT.sIx (zs.map PyData.str).length 0 (some 1) = min 1 (zs.map PyData.str).length from rfl, show HT.sIx (zs.map PyData.str).length (zs.map PyData.str).length none = (zs.map PyData.str).length from rfl]
    cases zs with
    | nil => rfl
    | cons z r =>
      simp
      rw [List.take_of_length_le (by simp)]
  have hz : zipD (zs.map PyData.str) ((zs.drop 1).map PyData.str) = (zs.zip (zs.drop 1)).map fun p => prD (.str p.1) (.str p.2) := by
    unfold zipD
    rw [List.zip_map, List.map_map]
    rfl
  have h1 : iZipD (aCons (eVar 0) (aCons (eSl (eVar 0) (oSome (eC (.int 1))) oNone) aNil)) [.dat (.list (zs.map .str)), .un, .un] ps = some ((zs.zip (zs.drop 1)).map fun p => prD (.str p.1) (.str p.2), ps) := by
    have e1 : eSl (eVar 0) (oSome (eC (.int 1))) oNone [.dat (.list (zs.map .str)), .un, .un] ps = some (.list ((zs.drop 1).map .str), ps) := by
      simp [eSl, eVar, oSome, eC, oNone, bindP, slD, hcut]
    unfold iZipD
    rw [aCons_two (x := .list (zs.map .str)) (p1 := ps) rfl e1]
    simp only [hz]
  have h2 := lc_enc (t := tTup 2 (tlCons (tName 1) (tlCons (tName 2) tlNil))) (test := bYes) (elt := eOp ltS (eVar 1) (eVar 2)) (vs := [1, 2]) (g := fun p : Str × Str => PyData.bool (ltB p.1 p.2)) h1 (by rw [List.length_zip]; omega) fun p _ => lcS_at (S1 := [.dat (.list (zs.map .str)), .dat (.str p.1), .dat (.str p.2)]) rfl (eOp_at rfl rfl rfl)
  exact sRet_at (eCB_at (aCons_one h2) (allD_bools _ _))
theorem asc_pw : ∀ zs : List Str, ascS zs = true ↔ zs.Pairwise (fun a b => ltB a b = true)
  | [] => by simp [ascS]
  | [x] => by simp [ascS]
  | x :: y :: r => by
    have ih := asc_pw (y :: r)
    have e : ascS (x :: y :: r) = (ltB x y && ascS (y :: r)) := by simp [ascS]
    rw [e, Bool.and_eq_true, ih]
    constructor
    · rintro ⟨h1, h2⟩
      rw [List.pairwise_cons]
      refine ⟨fun z hz => ?_, h2⟩
      rcases List.mem_cons.mp hz with rfl | hz
      · exact h1
      · have h3 := (List.pairwise_cons.mp h2).1 z hz
        unfold ltB at h1 h3 ⊢
        rw [decide_eq_true_eq] at h1 h3 ⊢
        exact List.lt_trans h1 h3
    · intro h
      obtain ⟨h1, h2⟩ := List.pairwise_cons.mp h
      exact ⟨h1 y List.mem_cons_self, h2⟩
theorem lt_iff {a b : Str} : ltB a b = true ↔ leS a b = true ∧ a ≠ b := by
  rw [leS_iff]
  unfold ltB
  rw [decide_eq_true_eq]
  constructor
  · intro h
    refine ⟨List.le_of_lt h, fun z => ?_⟩
    subst z
    exact List.lt_irrefl _ h
  · rintro ⟨h1, h2⟩
    rcases List.le_iff_lt_or_eq.mp h1 with h | h
    · exact h
    · exact absurd (str_ext h) h2
theorem sh_int (i : Int) : SeqAt.shaped (.int i) = true := by
  show (PyData.canLay0 (.int i) && decide ((PyData.int i).depth ≤ 64)) = true
  simp [PyData.canLay0, PyData.depth]
theorem ne_int (i j : Int) : neD (.int i) (.int j) = some (.bool (decide (i ≠ j))) := by
  show neD0 (.int i) (.int j) = _
  unfold neD0
  rw [sh_int, sh_int]
  by_cases h : i = j <;> simp [PyData.eqv, h]
theorem eq_int (i j : Int) : eqD (.int i) (.int j) = some (.bool (decide (i = j))) := by
  show eqD0 (.int i) (.int j) = _
  unfold eqD0
  rw [sh_int, sh_int]
  by_cases h : i = j <;> simp [PyData.eqv, h]
theorem shaped_strs {zs : List Str} (h : ∀ z ∈ zs, PyData.strOk z = true) : SeqAt.shaped (.list (zs.map .str)) = true := by
  have h1 : PyData.canLayAll0 (zs.map .str) = true := by
    induction zs with
    | nil => simp [PyData.canLayAll0]
    | cons z r ih =>
      rw [List.map_cons, PyData.canLayAll0, ih fun y hy => h y (List.mem_cons_of_mem _ hy)]
      simp [PyData.canLay0, h z List.mem_cons_self]
  have h2 : ∀ ys : List Str, PyData.depthAll (ys.map .str) ≤ 1 := by
    intro ys
    induction ys with
    | nil => simp [PyData.depthAll]
    | cons z r ih =>
      rw [List.map_cons, PyData.depthAll]
      simp only [PyData.depth]
      omega
  have h3 := h2 zs
  show (PyData.canLay0 (.list (zs.map .str)) && decide ((PyData.list (zs.map .str)).depth ≤ 64)) = true
  rw [show PyData.canLay0 (.list (zs.map .str)) = PyData.canLayAll0 (zs.map .str) by simp [PyData.canLay0], h1]
  rw [Bool.true_and]
  apply decide_eq_true
  rw [PyData.depth]
  omega
theorem eqv_strs : ∀ zs ys : List Str, PyData.eqvAll (zs.map .str) (ys.map .str) = decide (zs = ys)
  | [], [] => by simp [PyData.eqvAll]
  | [], y :: t => by simp [PyData.eqvAll]
  | x :: s, [] => by simp [PyData.eqvAll]
  | x :: s, y :: t => by
    rw [List.map_cons, List.map_cons, PyData.eqvAll, eqv_strs s t]
    by_cases h1 : x = y <;> by_cases h2 : s = t <;> simp [PyData.eqv, h1, h2]
theorem eq_strs {zs ys : List Str} (h1 : ∀ z ∈ zs, PyData.strOk z = true) (h2 : ∀ z ∈ ys, PyData.strOk z = true) : eqD (.list (zs.map .str)) (.list (ys.map .str)) = some (.bool (decide (zs = ys))) := by
  show eqD0 _ _ = _
  unfold eqD0
  rw [shaped_strs h1, shaped_strs h2]
  simp only [PyData.eqv, eqv_strs]
  rfl
theorem strs_map (zs : List Str) : strsOf (zs.map .str) = some zs := by
  induction zs with
  | nil => rfl
  | cons z r ih =>
    show (strsOf (r.map .str)).map (z :: ·) = _
    rw [ih]
    rfl
theorem sort_strs {zs : List Str} (h : zs.length ≤ 60) : one sortSD [.list (zs.map .str)] = some (.list ((zs.mergeSort leS).map .str)) := by
  show sortSD (.list (zs.map .str)) = _
  simp only [sortSD, strs_map]
  rw [if_pos (decide_eq_true (by omega))]
def bnd : Nat → Nat
  | 0 => 6010
  | k + 1 => 12 * (bnd k + 2) + 4
theorem bnd_up (k : Nat) : bnd k ≤ bnd (k + 1) := by
  show bnd k ≤ 12 * (bnd k + 2) + 4
  omega
theorem bnd_0 (k : Nat) : 6010 ≤ bnd k := by
  induction k with
  | zero => exact Nat.le_refl _
  | succ k ih => exact Nat.le_trans ih (bnd_up k)
theorem str_app (a b : Str) : (a ++ b).length = a.length + b.length := strLen_append a b
theorem text_up {B : Nat} : ∀ (ts : List Str) (k : Nat) (acc : Str), (∀ t ∈ ts, t.length ≤ B) → (textFrom k acc ts).length ≤ acc.length + ts.length * (B + 2)
  | [], k, acc, _ => by simp [textFrom]
  | t :: r, k, acc, h => by
    have ih := text_up r (k + 1) (acc ++ (if k > 0 then ", " else "" : String) ++ t) fun x hx => h x (List.mem_cons_of_mem _ hx)
    have h1 := h t List.mem_cons_self
    have h2 : ((if k > 0 then ", " else "" : String) : Str).length ≤ 2 := by
      by_cases hk : k > 0
      · rw [if_pos hk]
        decide
      · rw [if_neg hk]
        decide
    have e : (acc ++ (if k > 0 then ", " else "" : String) ++ t).length = acc.length + ((if k > 0 then ", " else "" : String) : Str).length + t.length := by
      rw [str_app, str_app]
    rw [e] at ih
    show (textFrom (k + 1) (acc ++ (if k > 0 then ", " else "" : String) ++ t) r).length ≤ _
    rw [List.length_cons, Nat.succ_mul]
    omega
theorem list_up {B : Nat} {ts : List Str} (h : ∀ t ∈ ts, t.length ≤ B) : (listText ts).length ≤ ts.length * (B + 2) + 2 := by
  unfold listText
  rw [str_app]
  have := text_up ts 0 "[" h
  have h1 : (("[" : String) : Str).length = 1 := by decide
  have h2 : (("]" : String) : Str).length = 1 := by decide
  omega
theorem piled_up {B : Nat} : ∀ {ts : List Str}, (∀ t ∈ ts, t.length ≤ B) → piled ts ≤ ts.length * (B + 2)
  | [], _ => by simp [piled]
  | t :: r, h => by
    have ih := piled_up (ts := r) fun x hx => h x (List.mem_cons_of_mem _ hx)
    have h1 := h t List.mem_cons_self
    have e : piled (t :: r) = t.length + 2 + piled r := by simp [piled]
    rw [e, List.length_cons, Nat.succ_mul]
    omega
theorem tup_up {B : Nat} {ts : List Str} (h : ∀ t ∈ ts, t.length ≤ B) : (tupleText ts).length ≤ ts.length * (B + 2) + 3 := by
  unfold tupleText
  rw [str_app, str_app]
  have h1 : (("(" : String) : Str).length = 1 := by decide
  have h2 : ((if ts.length == 1 then ",)" else ")" : String) : Str).length ≤ 2 := by
    by_cases hk : (ts.length == 1) = true
    · rw [if_pos hk]
      decide
    · rw [if_neg hk]
      decide
  have h3 := piled_up h
  by_cases hn : ts = []
  · subst hn
    have : (Str.join ", " []).length = 0 := by decide
    omega
  · have := join_length_add ts hn
    omega
mutual
theorem sh_le {w : Nat} (hw : w ≤ 12) : ∀ (d : PyData) (k : Nat), wf w d = true → d.depth ≤ k → d.shown.length ≤ bnd k
  | .none, k, _, _ => by
    have := bnd_0 k
    have e : (PyData.none).shown.length = 4 := by simp only [PyData.shown]; decide
    omega
  | .bool b, k, _, _ => by
    have := bnd_0 k
    have e : (PyData.bool b).shown.length ≤ 5 := by cases b <;> simp only [PyData.shown] <;> decide
    omega
  | .int i, k, h, _ => by
    have := bnd_0 k
    rw [wf] at h
    have h1 := int_text_length_le (k := 1000) (by decide) (of_decide_eq_true h)
    have e : (PyData.int i).shown.length = (toString i).length := by
      simp only [PyData.shown]
      exact ofString_length _
    omega
  | .str z, k, h, _ => by
    have := bnd_0 k
    rw [wf, Bool.and_eq_true, Bool.and_eq_true] at h
    have h1 : (reprText z).length ≤ 6010 := of_decide_eq_true h.1.2
    have e : (PyData.str z).shown = reprText z := by simp only [PyData.shown]
    rw [e]
    omega
  | .list ds, k, h, hd => by
    rw [wf, Bool.and_eq_true] at h
    have hl : ds.length ≤ w := of_decide_eq_true h.1
    cases k with
    | zero => simp [PyData.depth] at hd
    | succ k =>
      simp only [PyData.depth] at hd
      have h1 := shL_le hw ds k h.2 (by omega)
      have e : (PyData.list ds).shown = listText (PyData.shownAll ds) := by simp only [PyData.shown]
      have h2 := list_up h1
      rw [shAll_len] at h2
      rw [e]
      have h3 : ds.length * (bnd k + 2) ≤ 12 * (bnd k + 2) := Nat.mul_le_mul_right _ (by omega)
      show _ ≤ 12 * (bnd k + 2) + 4
      omega
  | .tuple ds, k, h, hd => by
    rw [wf, Bool.and_eq_true] at h
    have hl : ds.length ≤ w := of_decide_eq_true h.1
    cases k with
    | zero => simp [PyData.depth] at hd
    | succ k =>
      simp only [PyData.depth] at hd
      have h1 := shL_le hw ds k h.2 (by omega)
      have e : (PyData.tuple ds).shown = tupleText (PyData.shownAll ds) := by simp only [PyData.shown]
      have h2 := tup_up h1
      rw [shAll_len] at h2
      rw [e]
      have h3 : ds.length * (bnd k + 2) ≤ 12 * (bnd k + 2) := Nat.mul_le_mul_right _ (by omega)
      show _ ≤ 12 * (bnd k + 2) + 4
      omega
  | .dict es, k, h, _ => by
    have := bnd_0 k
    cases wf_dict h
    have e : (PyData.dict []).shown.length = 2 := by simp only [PyData.shown, PyData.shownKv]; decide
    omega
theorem shL_le {w : Nat} (hw : w ≤ 12) : ∀ (ds : List PyData) (k : Nat), wfL w ds = true → PyData.depthAll ds ≤ k → ∀ t ∈ PyData.shownAll ds, t.length ≤ bnd k
  | [], k, _, _, t, ht => by simp [PyData.shownAll] at ht
  | d :: ds, k, h, hd, t, ht => by
    rw [wfL, Bool.and_eq_true] at h
    simp only [PyData.depthAll] at hd
    simp only [PyData.shownAll, List.mem_cons] at ht
    rcases ht with rfl | ht
    · exact sh_le hw d k h.1 (by omega)
    · exact shL_le hw ds k h.2 (by omega) t ht
theorem shAll_len : ∀ ds : List PyData, (PyData.shownAll ds).length = ds.length
  | [] => by simp [PyData.shownAll]
  | d :: ds => by simp [PyData.shownAll, shAll_len ds]
end
mutual
theorem wf_free {w : Nat} : ∀ d : PyData, wf w d = true → potFree d = true ∧ d.showable = true
  | .none, _ => by simp [potFree, PyData.showable]
  | .bool _, _ => by simp [potFree, PyData.showable]
  | .int i, h => by
    rw [wf] at h
    have := of_decide_eq_true h
    simp only [potFree, PyData.showable, true_and, decide_eq_true_eq]
    omega
  | .str _, _ => by simp [potFree, PyData.showable]
  | .list ds, h => by
    rw [wf, Bool.and_eq_true] at h
    have := wfL_free ds h.2
    simp only [potFree, PyData.showable]
    exact this
  | .tuple ds, h => by
    rw [wf, Bool.and_eq_true] at h
    have := wfL_free ds h.2
    simp only [potFree, PyData.showable]
    exact this
  | .dict es, h => by
    cases wf_dict h
    simp [potFree, potFreeK, PyData.showable, PyData.showableKv]
theorem wfL_free {w : Nat} : ∀ ds : List PyData, wfL w ds = true → potFreeL ds = true ∧ PyData.showableAll ds = true
  | [], _ => by simp [potFreeL, PyData.showableAll]
  | d :: ds, h => by
    rw [wfL, Bool.and_eq_true] at h
    obtain ⟨a, b⟩ := wf_free d h.1
    obtain ⟨c, e⟩ := wfL_free ds h.2
    simp [potFreeL, PyData.showableAll, a, b, c, e]
end
theorem repr_at {d : PyData} (h1 : isBox d = true) (h2 : potFree d = true) (h3 : d.showable = true) (h4 : d.depth ≤ 100) (h5 : d.shown.length ≤ 16777216) : reprD d = some (.str d.shown) := by
  have hs : reprOk d = true := by
    unfold reprOk
    rw [h1, h2, h3, decide_eq_true h4, decide_eq_true h5]
    rfl
  unfold reprD
  rw [if_pos hs]
def POk (ps : Pt) : Prop := 0 ≤ ps.2.1 ∧ ps.2.1 < 2147483648
theorem draw_ok {m : Int} {ps : Pt} (h : POk ps) (h0 : 0 < m) (h1 : m < 1606938044258990275541962092341162602522202993782792835301376) : ∃ v, drawFW [potD, .int m] ps = some (.int v, drawS m ps) ∧ 0 ≤ v ∧ v < m ∧ POk (drawS m ps) := by
  refine ⟨drawV m ps, ?_, ?_, ?_, ?_⟩
  · show (if isPot potD && drawOkW m ps then some (PyData.int (drawV m ps), drawS m ps) else none) = _
    have e : (isPot potD && drawOkW m ps) = true := by
      unfold drawOkW
      rw [decide_eq_true h0, decide_eq_true h1, decide_eq_true h.1, decide_eq_true h.2]
      rfl
    rw [if_pos e]
  · unfold drawV
    split <;> exact Int.emod_nonneg _ (by omega)
  · unfold drawV
    split <;> exact Int.emod_lt_of_pos _ h0
  · unfold drawS POk
    split
    · exact h
    · refine ⟨Int.emod_nonneg _ (by decide), ?_⟩
      have : (ps.2.1 * 39373 + 12227) % 2147483629 < 2147483629 := Int.emod_lt_of_pos _ (by decide)
      show (ps.2.1 * 39373 + 12227) % 2147483629 < 2147483648
      omega
theorem atI_ok {α : Type} {xs : List α} {i : Int} (h0 : 0 ≤ i) (h1 : i < xs.length) : ∃ x ∈ xs, atI xs i = some x := by
  have hl : i.toNat < xs.length := by omega
  refine ⟨xs[i.toNat], List.getElem_mem hl, ?_⟩
  unfold atI ixN
  rw [if_pos h0, if_pos h1]
  simp [hl]
theorem pick_ok {x : PyData} {ds : List PyData} {ps : Pt} (hx : x = .list ds ∨ x = .tuple ds) (h : POk ps) (h0 : 0 < ds.length) (h1 : ds.length ≤ 1000) : ∃ d ∈ ds, ∃ p', q_pick [potD, x] ps = some (d, p') ∧ POk p' := by
  obtain ⟨v, e, v0, v1, ok⟩ := draw_ok (m := ds.length) h (by omega) (by omega)
  obtain ⟨d, hd, e2⟩ := atI_ok (xs := ds) v0 v1
  refine ⟨d, hd, _, ?_, ok⟩
  show runF 2 qg_pick [potD, x] ps = _
  have el : lenD x = some (.int ds.length) := by rcases hx with rfl | rfl <;> rfl
  have ei : ixD x (.int v) = some d := by rcases hx with rfl | rfl <;> exact e2
  simp [runF, qg_pick, sRet, eOp, eVar, startD, eCall, aCons, aNil, eCB, one, el, bindP, e, ei]
theorem log2_le {n k : Nat} (h : n < 2 ^ k) (hk : 0 < k) : n.log2 < k := by
  by_cases hn : n = 0
  · subst hn
    simpa using hk
  · exact (Nat.log2_lt hn).mpr h
theorem mul_ok {i j : Int} (hi : i.natAbs < 2 ^ 40) (hj : j.natAbs < 2 ^ 40) : mulI (.int i) (.int j) = some (.int (i * j)) := by
  show (if decide (i.natAbs.log2 + j.natAbs.log2 < 1000000) then _ else _) = _
  have h1 := log2_le hi (by decide)
  have h2 := log2_le hj (by decide)
  rw [if_pos (decide_eq_true (by omega))]
theorem add_ii (i j : Int) : addD (.int i) (.int j) = some (.int (i + j)) := rfl
theorem pot_ok (ns : List Int) (k : Nat) (ps : Pt) (hk : k ≤ 63) : ∃ a b, q_pot [.list (ns.map .int), .int k] ps = some ([.int a, .int b], ps) ∧ ∀ n : Int, POk (a, b, n) := by
  have hc : ∃ c : Int, eIf (asB (eOp ltI (eVar 1) (eCB (one lenD) (aCons (eVar 0) aNil)))) (eCB (one absD) (aCons (eOp ixD (eVar 0) (eVar 1)) aNil)) (eOp addD (eOp mulI (eC (.int 7)) (eVar 1)) (eC (.int 3))) [.dat (.list (ns.map .int)), .dat (.int k), .un] ps = some (.int c, ps) := by
    have e1 : asB (eOp ltI (eVar 1) (eCB (one lenD) (aCons (eVar 0) aNil))) [.dat (.list (ns.map .int)), .dat (.int k), .un] ps = some (decide ((k : Int) < (ns.length : Int)), ps) := by
      simp [asB, eOp, eVar, eCB, aCons, aNil, one, lenD, bindP, ltI, cmpI, onI2]
    by_cases hl : (k : Int) < (ns.length : Int)
    · obtain ⟨d, hd, e2⟩ := atI_ok (xs := ns.map PyData.int) (i := (k : Int)) (by omega) (by rw [List.length_map]; exact hl)
      obtain ⟨z, _, rfl⟩ := List.mem_map.mp hd
      refine ⟨if z < 0 then -z else z, ?_⟩
      unfold eIf
      rw [e1, bindP_some, if_pos (decide_eq_true hl)]
      have e3 : ixD (.list (ns.map .int)) (.int k) = some (.int z) := e2
      simp [eCB, aCons, aNil, eOp, eVar, bindP, e3, one, absD]
    · refine ⟨7 * k + 3, ?_⟩
      unfold eIf
      rw [e1, bindP_some, if_neg (by simpa using hl)]
      simp [eOp, eC, eVar, bindP, mul_ok (i := 7) (j := (k : Int)) (by decide) (by omega), add_ii]
  obtain ⟨c, hc⟩ := hc
  have h0 : 0 ≤ c % 2147483629 := Int.emod_nonneg _ (by decide)
  have h1 : c % 2147483629 < 2147483629 := Int.emod_lt_of_pos _ (by decide)
  refine ⟨if c - 1000000000000000000 > 0 then c - 1000000000000000000 else 0, (c % 2147483629 * 48271 + 60029 * k + 31) % 2147483647, ?_, fun n => ⟨Int.emod_nonneg _ (by decide), ?_⟩⟩
  · unfold q_pot DL.runN sSet
    rw [show startD 3 [.list (ns.map .int), .int k] = [.dat (.list (ns.map .int)), .dat (.int k), .un] from rfl, hc]
    have p1 : powI (.int 10) (.int 18) = some (.int 1000000000000000000) := by rfl
    have s1 : subI (.int c) (.int 1000000000000000000) = some (.int (c - 1000000000000000000)) := rfl
    have m1 : modI (.int c) (.int 2147483629) = some (.int (c % 2147483629)) := rfl
    have m2 : mulI (.int (c % 2147483629)) (.int 48271) = some (.int (c % 2147483629 * 48271)) := mul_ok (by omega) (by decide)
    have m3 : mulI (.int 60029) (.int k) = some (.int (60029 * k)) := mul_ok (by decide) (by omega)
    have m4 : modI (.int (c % 2147483629 * 48271 + 60029 * k + 31)) (.int 2147483647) = some (.int ((c % 2147483629 * 48271 + 60029 * k + 31) % 2147483647)) := rfl
    simp [bindP, aCons, aNil, eCB, eOp, eC, eVar, p1, s1, m1, m2, m3, m4, max2, one, intD, add_ii, fitsL]
  · show (c % 2147483629 * 48271 + 60029 * k + 31) % 2147483647 < 2147483648
    have : (c % 2147483629 * 48271 + 60029 * k + 31) % 2147483647 < 2147483647 := Int.emod_lt_of_pos _ (by decide)
    omega
theorem depthAll_le {k : Nat} : ∀ {xs : List PyData}, (∀ x ∈ xs, x.depth ≤ k) → PyData.depthAll xs ≤ k
  | [], _ => by simp [PyData.depthAll]
  | x :: r, h => by
    have h1 := h x List.mem_cons_self
    have h2 := depthAll_le (xs := r) fun y hy => h y (List.mem_cons_of_mem _ hy)
    simp only [PyData.depthAll]
    omega
theorem cut_hi (ds : List PyData) (k : Nat) : cutL ds none (some (k : Int)) = ds.take k := by
  unfold cutL
  rw [HT.sIx_nat, HT.sIx_none, List.drop_zero, Nat.sub_zero]
  by_cases h : k ≤ ds.length
  · rw [Nat.min_eq_left h]
  · rw [Nat.min_eq_right (by omega), List.take_length, List.take_of_length_le (by omega)]
theorem var_at {S0 : Sd} {ps : Pt} {j : Nat} {d : PyData} (h : S0[j]? = some (.dat d)) : eVar j S0 ps = some (d, ps) := by
  unfold eVar
  rw [h]
theorem lt_int (i j : Int) : ltI (.int i) (.int j) = some (.bool (decide (i < j))) := rfl
theorem lc_rel {α : Type} {e : α → PyData} {R : α → PyData → Prop} {it : AG} {t : Tgt} {elt : EG} {vs : List Nat} {S0 : Sd} {ps : Pt} {xs : List α} (hi : it S0 ps = some (xs.map e, ps)) (hp : POk ps) (hl : xs.length ≤ 1000) (h : ∀ x ∈ xs, ∀ p, POk p → ∃ (y : PyData) (p' : Pt), POk p' ∧ R x y ∧ lcStep t bYes elt (wipeD S0 vs) (e x) p = some (some y, p')) :
    ∃ (ys : List PyData) (p' : Pt), POk p' ∧ Paired R xs ys ∧ eLc it t bYes elt vs S0 ps = some (.list ys, p') := by
  unfold eLc
  rw [hi, bindP_some, if_pos (fits_of (by rw [List.length_map]; exact hl))]
  have key : ∀ (us : List α) (acc : List PyData) (p : Pt), POk p → (∀ u ∈ us, u ∈ xs) → ∃ (ys : List PyData) (p' : Pt), POk p' ∧ Paired R us ys ∧ lcGo (lcStep t bYes elt (wipeD S0 vs)) (us.map e) p acc = some (acc ++ ys, p') := by
    intro us
    induction us with
    | nil => exact fun acc p hp _ => ⟨[], p, hp, .nil, by simp [lcGo]⟩
    | cons u r ih =>
      intro acc p hp hu
      obtain ⟨y, p1, ok1, hr, e1⟩ := h u (hu u List.mem_cons_self) p hp
      obtain ⟨ys, p2, ok2, hrs, e2⟩ := ih (acc ++ [y]) p1 ok1 fun z hz => hu z (List.mem_cons_of_mem _ hz)
      refine ⟨y :: ys, p2, ok2, .cons hr hrs, ?_⟩
      rw [List.map_cons]
      unfold lcGo
      rw [e1, bindP_some]
      show lcGo _ _ p1 (acc ++ [y]) = _
      rw [e2, List.append_assoc]
      rfl
  obtain ⟨ys, p', ok, hr, e1⟩ := key xs [] ps hp fun u hu => hu
  refine ⟨ys, p', ok, hr, ?_⟩
  rw [e1]
  rfl
theorem lcS_dr {t : Tgt} {elt : EG} {S S1 : Sd} {x y : PyData} {ps p' : Pt} (ht : t x S = some S1) (he : elt S1 ps = some (y, p')) : lcStep t bYes elt S x ps = some (some y, p') := by
  unfold lcStep
  rw [ht]
  simp only [bYes, bindP_some, he, if_true]
theorem aCons_at {g : EG} {gs : AG} {S0 : Sd} {p0 p p1 : Pt} {x : PyData} {xs : List PyData} (h1 : g S0 p0 = some (x, p)) (h2 : gs S0 p = some (xs, p1)) : aCons g gs S0 p0 = some (x :: xs, p1) := by
  simp only [aCons, h1, h2, bindP_some]
theorem sl_lst {S0 : Sd} {ps q : Pt} {g h : EG} {ds : List PyData} {k : Nat} (hg : g S0 ps = some (.list ds, ps)) (hh : h S0 ps = some (.int (k : Nat), q)) : eSl g oNone (oSome h) S0 ps = some (.list (ds.take k), q) := by
  have := cut_hi ds k
  simp only [eSl, hg, oNone, oSome, hh, bindP_some, slD]
  rw [this]
  rfl
theorem for_inv {t : Tgt} {body : SG} {I : Nat → Sd → Prop} : ∀ (xs : List PyData) (k : Nat) (h : ∀ x ∈ xs, ∀ (j : Nat) (S : Sd) (p : Pt), j < k + xs.length → I j S → POk p → ∃ (S0 S1 : Sd) (p' : Pt), t x S = some S0 ∧ body S0 p = some (.nx S1, p') ∧ I (j + 1) S1 ∧ POk p') (S : Sd) (p : Pt), I k S → POk p → ∃ (S1 : Sd) (p' : Pt), forGo t body xs S p = some (.nx S1, p') ∧ I (k + xs.length) S1 ∧ POk p'
  | [], k, _, S, p, hI, hp => ⟨S, p, rfl, hI, hp⟩
  | x :: xs, k, h, S, p, hI, hp => by
    obtain ⟨S0, S1, p1, e0, e1, i1, ok1⟩ := h x List.mem_cons_self k S p (by simp) hI hp
    obtain ⟨S2, p2, e2, i2, ok2⟩ := for_inv xs (k + 1) (fun y hy j S p hj => h y (List.mem_cons_of_mem _ hy) j S p (by rw [List.length_cons]; omega)) S1 p1 i1 ok1
    refine ⟨S2, p2, ?_, ?_, ok2⟩
    · unfold forGo
      rw [e0]
      dsimp only
      rw [e1]
      exact e2
    · rw [List.length_cons, show k + (xs.length + 1) = k + 1 + xs.length by omega]
      exact i2
theorem lc_true {it : AG} {t : Tgt} {elt : EG} {vs : List Nat} {S0 : Sd} {ps : Pt} {xs : List PyData} (hi : it S0 ps = some (xs, ps)) (hl : xs.length ≤ 1000) (h : ∀ x ∈ xs, lcStep t bYes elt (wipeD S0 vs) x ps = some (some (.bool true), ps)) : eLc it t bYes elt vs S0 ps = some (.list (xs.map fun _ => .bool true), ps) := by
  unfold eLc
  rw [hi, bindP_some, if_pos (fits_of hl)]
  have key : ∀ (us acc : List PyData), (∀ u ∈ us, u ∈ xs) → lcGo (lcStep t bYes elt (wipeD S0 vs)) us ps acc = some (acc ++ us.map fun _ => .bool true, ps) := by
    intro us
    induction us with
    | nil => intro acc _; simp [lcGo]
    | cons u r ih =>
      intro acc hu
      unfold lcGo
      rw [h u (hu u List.mem_cons_self), bindP_some]
      show lcGo _ _ ps (acc ++ [.bool true]) = _
      rw [ih _ fun z hz => hu z (List.mem_cons_of_mem _ hz), List.append_assoc]
      rfl
  rw [key xs [] fun u hu => hu]
  rfl
abbrev Ln := List (Str × Int)
def encP (p : Str × Int) : PyData := .tuple [.str p.1, .int p.2]
def encL (l : Ln) : PyData := .tuple (l.map encP)
structure LnOk (b : Nat) (l : Ln) : Prop where
  nm : ∀ p ∈ l, nameS p.1 = true
  ps : ∀ p ∈ l, 1 ≤ p.2 ∧ p.2 < 2 ^ b
  asc : ascS (l.map (·.1)) = true
  len : l.length ≤ 7
theorem LnOk.up {b c : Nat} {l : Ln} (h : LnOk b l) (hc : b ≤ c) : LnOk c l := ⟨h.nm, fun p hp => ⟨(h.ps p hp).1, Int.lt_of_lt_of_le (h.ps p hp).2 (by
  have := Nat.pow_le_pow_right (n := 2) (by decide) hc
  exact_mod_cast this)⟩, h.asc, h.len⟩
theorem name_parts {z : Str} (h : nameS z = true) : 1 ≤ z.length ∧ z.length ≤ 8 ∧ z ∉ RES ∧ ∀ c ∈ z.cps.toList, c ∈ LET.cps.toList := by
  unfold nameS at h
  simp only [Bool.and_eq_true, decide_eq_true_eq, Bool.not_eq_true', decide_eq_false_iff_not, List.all_eq_true] at h
  obtain ⟨h1, h2, h3, h4⟩ := h
  exact ⟨by omega, by omega, h3, h4⟩
theorem let_range : ∀ c ∈ LET.cps.toList, 97 ≤ c ∧ c ≤ 122 := by decide +kernel
theorem name_range {z : Str} (h : nameS z = true) : ∀ c ∈ z.cps.toList, 97 ≤ c ∧ c ≤ 122 := fun c hc => let_range c ((name_parts h).2.2.2 c hc)
theorem strOk_of {z : Str} (h : ∀ c ∈ z.cps.toList, c < 1114112) : PyData.strOk z = true := by
  unfold PyData.strOk
  rw [← Array.all_toList, List.all_eq_true]
  intro c hc
  exact decide_eq_true (h c hc)
theorem name_wf {w : Nat} {z : Str} (h : nameS z = true) : wf w (.str z) = true := by
  have hr := name_range h
  have hl := (name_parts h).2.1
  have h1 := StrLaws.reprText_len z fun c hc => by have := hr c hc; omega
  rw [wf, strOk_of fun c hc => by have := hr c hc; omega, decide_eq_true (by omega), decide_eq_true (by omega)]
  rfl
theorem is_name_at {z : Str} (h : nameS z = true) (ps : Pt) : q_is_name [.str z] ps = some (.bool true, ps) := by
  rw [is_name (w := 0) ps (name_wf h), nameOk, h]
theorem is_int_at (i l : Int) (ps : Pt) : q_is_integer [.int i, .int l] ps = some (.bool (decide (l ≤ i)), ps) := by
  show runF 2 qg_is_integer [.int i, .int l] ps = _
  have e1 : isiD "int" (.int i) = some (.bool true) := by
    have : kitB "int" "int" = some true := by decide +kernel
    simp [isiD, tyName, this]
  have e2 : isiD "bool" (.int i) = some (.bool false) := by
    have : kitB "int" "bool" = some false := by decide +kernel
    simp [isiD, tyName, this]
  have e3 : ∀ i : Int, geI (.int i) (.int l) = some (.bool (decide (l ≤ i))) := fun _ => rfl
  simp [runF, qg_is_integer, sRet, eAndV, eNotV, eUn, eVar, startD, bindP, e1, e2, eOp, e3]
theorem isi_tup_at (ds : List PyData) : isiD "tuple" (.tuple ds) = some (.bool true) := by
  have : kitB "tuple" "tuple" = some true := by decide +kernel
  simp [isiD, tyName, this]
theorem isi_str_at (z : Str) : isiD "str" (.str z) = some (.bool true) := by
  have : kitB "str" "str" = some true := by decide +kernel
  simp [isiD, tyName, this]
theorem is_part_at {p : Str × Int} (h : nameS p.1 = true) (h1 : 1 ≤ p.2) (ps : Pt) : q_is_part [encP p] ps = some (.bool true, ps) := by
  apply run_rt
  show qg_is_part [.dat (encP p)] ps = _
  unfold qg_is_part
  refine sRet_at (eAnd_at (b := true) (c := true) (eUn_at rfl (isi_tup_at _)) fun _ => eAnd_at (b := true) (c := true) (eOp_at (eCB_at (aCons_one (x := encP p) (p1 := ps) rfl) rfl) rfl (eq_int 2 2)) fun _ => eAnd_at (b := true) (c := true) (eCall_at (aCons_one (eOp_at rfl rfl rfl)) (is_name_at h ps)) fun _ => eCall_at (aCons_two (eOp_at rfl rfl rfl) rfl) ?_)
  rw [is_int_at, decide_eq_true h1]
theorem all_true {α : Type} {f : α → Bool} {xs : List α} (h : ∀ x ∈ xs, f x = true) : xs.all f = true := List.all_eq_true.mpr h
theorem is_line_at {b : Nat} {l : Ln} (h : LnOk b l) (ps : Pt) : q_is_line [encL l] ps = some (.bool true, ps) := by
  apply run_rt
  show qg_is_line [.dat (encL l), .un, .un, .un] ps = _
  have hl : l.length ≤ 1000 := Nat.le_trans h.len (by decide)
  have a1 : eLc (iOf (eVar 0)) (tName 3) bYes (eCall q_is_part (aCons (eVar 3) aNil)) [3] [.dat (encL l), .un, .un, .un] ps = some (.list (l.map fun _ => PyData.bool true), ps) :=
    lc_enc (e := encP) (xs := l) (g := fun _ => PyData.bool true) rfl hl fun p hp => lcS_at (S1 := [.dat (encL l), .un, .un, .dat (encP p)]) rfl (eCall_at (aCons_one rfl) (is_part_at (h.nm p hp) (h.ps p hp).1 ps))
  have a2 : asB (eCB (one allD) (aCons (eLc (iOf (eVar 0)) (tName 3) bYes (eCall q_is_part (aCons (eVar 3) aNil)) [3]) aNil)) [.dat (encL l), .un, .un, .un] ps = some (true, ps) := by
    refine asB_at ((eCB_at (aCons_one a1) (allD_bools (fun _ => true) l)).trans ?_)
    rw [all_true fun _ _ => rfl]
  have t1 := bOr_at (bNot_at (asB_at (eUn_at (o := isiD "tuple") (g := eVar 0) (S := [.dat (encL l), .un, .un, .un]) (ps := ps) rfl (isi_tup_at _)))) (fun _ => bNot_at a2) (fun z => by cases z)
  unfold qg_is_line
  rw [sSeq_nx (S1 := [.dat (encL l), .un, .un, .un]) (p := ps) (by rw [sIf_at t1]; rfl)]
  have a3 : eLc (iOf (eVar 0)) (tTup 2 (tlCons (tName 1) (tlCons (tName 2) tlNil))) bYes (eVar 1) [1, 2] [.dat (encL l), .un, .un, .un] ps = some (.list ((l.map (·.1)).map .str), ps) := by
    have := lc_enc (e := encP) (xs := l) (g := fun p => PyData.str p.1) (it := iOf (eVar 0)) (t := tTup 2 (tlCons (tName 1) (tlCons (tName 2) tlNil))) (test := bYes) (elt := eVar 1) (vs := [1, 2]) (S0 := [.dat (encL l), .un, .un, .un]) (ps := ps) rfl hl fun p hp => lcS_at (S1 := [.dat (encL l), .dat (.str p.1), .dat (.int p.2), .un]) rfl rfl
    rw [this, List.map_map]
    rfl
  refine sRet_at (eCall_at (aCons_one a3) ?_)
  rw [is_rising _ ps (by rw [List.length_map]; exact hl), h.asc]
theorem forGo_nx {t : Tgt} {body : SG} {x : PyData} {xs : List PyData} {S S0 S1 : Sd} {ps p : Pt} (ht : t x S = some S0) (hb : body S0 ps = some (.nx S1, p)) : forGo t body (x :: xs) S ps = forGo t body xs S1 p := by
  rw [forGo]
  simp only [ht, hb]
theorem want_go {b : Nat} (ps : Pt) (x : SV) : ∀ (ls : List Ln) (a : SV), (∀ l ∈ ls, LnOk b l) → ∃ a', forGo (tName 1) (sIf (bNot (asB (eCall q_is_line (aCons (eVar 1) aNil)))) (sRaise (Str.ofString "InvalidLine") [Str.ofString "value"] (aCons (eVar 1) aNil)) sNil) (ls.map encL) [x, a] ps = some (.nx [x, a'], ps)
  | [], a, _ => ⟨a, rfl⟩
  | l :: ls, a, h => by
    obtain ⟨a', e⟩ := want_go ps x ls (.dat (encL l)) fun y hy => h y (List.mem_cons_of_mem _ hy)
    refine ⟨a', ?_⟩
    rw [List.map_cons]
    have t : sIf (bNot (asB (eCall q_is_line (aCons (eVar 1) aNil)))) (sRaise (Str.ofString "InvalidLine") [Str.ofString "value"] (aCons (eVar 1) aNil)) sNil [x, .dat (encL l)] ps = some (.nx [x, .dat (encL l)], ps) := by
      rw [sIf_at (bNot_at (asB_at (eCall_at (aCons_one rfl) (is_line_at (h l List.mem_cons_self) ps))))]
      rfl
    rw [forGo_nx (S0 := [x, .dat (encL l)]) rfl t]
    exact e
theorem want_at {b : Nat} {x : PyData} {ls : List Ln} (hx : x = .list (ls.map encL) ∨ x = .tuple (ls.map encL)) (h : ∀ l ∈ ls, LnOk b l) (ps : Pt) : q_want_lines [x] ps = some (.none, ps) := by
  obtain ⟨a', e⟩ := want_go ps (.dat x) ls .un h
  have : qg_want_lines [.dat x, .un] ps = some (.nx [.dat x, a'], ps) := by
    unfold qg_want_lines sFor
    have e1 : iOf (eVar 0) [.dat x, .un] ps = some (ls.map encL, ps) := by rcases hx with rfl | rfl <;> rfl
    rw [e1, bindP_some]
    exact e
  show runF 2 qg_want_lines [x] ps = _
  unfold runF
  rw [show startD 2 [x] = [.dat x, .un] from rfl, this]
end PL
set_option Elab.async false
set_option linter.all false
set_option maxRecDepth 100000
set_option maxHeartbeats 2000000
namespace PL
open PySem L2 DL
local instance : TBL := ⟨[], fun _ => 0, fun _ => [], fun _ => none, w00⟩
theorem num_nat {i : Int} {b : Nat} (h : 1 ≤ i ∧ i < 2 ^ b) : ∃ n : Nat, i = n ∧ 1 ≤ n ∧ n < 2 ^ b := by
  obtain ⟨n, rfl⟩ := Int.eq_ofNat_of_zero_le (show 0 ≤ i by omega)
  refine ⟨n, rfl, by omega, ?_⟩
  have := h.2
  exact_mod_cast this
theorem log_of {i : Int} {b : Nat} (h : 1 ≤ i ∧ i < 2 ^ b) (hb : 0 < b) : i.natAbs.log2 < b := by
  obtain ⟨n, rfl, h1, h2⟩ := num_nat h
  exact log2_le h2 hb
def encD (zs : List Str) (f : Str → Int) : List (PyData × PyData) := zs.map fun z => (.str z, .int (f z))
def insS (zs : List Str) (z : Str) : List Str := if z ∈ zs then zs else zs ++ [z]
def updF (f : Str → Int) (z : Str) (i : Int) : Str → Int := fun y => if y = z then i else f y
theorem key_inj {a b : Str} : (keyOf (.str a) = some (.inr b : Key)) ↔ a = b := by
  constructor
  · intro h
    have : some (Sum.inr a : Key) = some (Sum.inr b) := h
    simpa using this
  · rintro rfl
    rfl
theorem get_enc (zs : List Str) (f : Str → Int) (z : Str) : getE (encD zs f) (.inr z) = if z ∈ zs then some (.int (f z)) else none := by
  unfold getE encD
  induction zs with
  | nil => rfl
  | cons y r ih =>
    rw [List.map_cons, List.find?_cons]
    by_cases h : y = z
    · subst h
      rw [decide_eq_true (key_inj.mpr rfl), if_pos List.mem_cons_self]
      rfl
    · rw [decide_eq_false (fun e => h (key_inj.mp e)), ih]
      by_cases h2 : z ∈ r
      · rw [if_pos h2, if_pos (List.mem_cons_of_mem _ h2)]
      · rw [if_neg h2, if_neg fun e => by
          rcases List.mem_cons.mp e with e | e
          · exact h e.symm
          · exact h2 e]
theorem put_enc (zs : List Str) (f : Str → Int) (z : Str) (i : Int) : putE (encD zs f) (.inr z) (.int i) = encD (insS zs z) (updF f z i) := by
  unfold putE
  rw [get_enc]
  unfold insS
  by_cases h : z ∈ zs
  · rw [if_pos h, if_pos h, if_pos (by rfl)]
    unfold encD
    rw [List.map_map]
    refine List.map_congr_left fun y hy => ?_
    show (if keyOf (.str y) = some (Sum.inr z : Key) then _ else _) = _
    unfold updF
    by_cases e : y = z
    · subst e
      rw [if_pos (key_inj.mpr rfl), if_pos rfl]
    · rw [if_neg (fun q => e (key_inj.mp q)), if_neg e]
  · rw [if_neg h, if_neg h, if_neg (by simp)]
    unfold encD
    rw [List.map_append, List.map_singleton]
    have : (zs.map fun z => (PyData.str z, PyData.int (f z))) = zs.map fun y => (PyData.str y, PyData.int (updF f z i y)) := List.map_congr_left fun y hy => by
      unfold updF
      rw [if_neg (fun e : y = z => h (by rw [← e]; exact hy))]
    rw [this]
    unfold updF
    simp
    rfl
theorem ins_mem {zs : List Str} {z y : Str} : y ∈ insS zs z ↔ y ∈ zs ∨ y = z := by
  unfold insS
  split
  · next h => exact ⟨.inl, fun e => e.elim id fun e => e ▸ h⟩
  · rw [List.mem_append, List.mem_singleton]
theorem ins_nodup {zs : List Str} {z : Str} (h : zs.Nodup) : (insS zs z).Nodup := by
  unfold insS
  split
  · exact h
  · next hn =>
    rw [List.nodup_append]
    refine ⟨h, by simp, fun a ha b hb e => ?_⟩
    rw [List.mem_singleton] at hb
    subst hb e
    exact hn ha
theorem notPot_enc (zs : List Str) (f : Str → Int) : notPot (encD zs f) = true := by
  cases zs with
  | nil => rfl
  | cons z r => rfl
theorem get2_at {gd gk : EG} {S : Sd} {ps : Pt} {zs : List Str} {f : Str → Int} {z : Str} (h1 : gd S ps = some (.dict (encD zs f), ps)) (h2 : gk S ps = some (.str z, ps)) : eGet2 gd gk (eC (.int 0)) S ps = some (.int (if z ∈ zs then f z else 0), ps) := by
  unfold eGet2
  rw [h1, bindP_some]
  simp only [notPot_enc, if_true, h2, bindP_some, DL.keyOf, eC, get_enc]
  split <;> rfl
theorem lc_opt {α : Type} {e : α → PyData} {it : AG} {t : Tgt} {test : BG} {elt : EG} {vs : List Nat} {S0 : Sd} {ps : Pt} {xs : List α} {g : α → Option PyData} (hi : it S0 ps = some (xs.map e, ps)) (hl : xs.length ≤ 1000) (h : ∀ x ∈ xs, lcStep t test elt (wipeD S0 vs) (e x) ps = some (g x, ps)) :
    eLc it t test elt vs S0 ps = some (.list (xs.filterMap g), ps) := by
  unfold eLc
  rw [hi, bindP_some, if_pos (fits_of (by rw [List.length_map]; exact hl))]
  have key : ∀ (ys : List α) (acc : List PyData), (∀ y ∈ ys, y ∈ xs) → lcGo (lcStep t test elt (wipeD S0 vs)) (ys.map e) ps acc = some (acc ++ ys.filterMap g, ps) := by
    intro ys
    induction ys with
    | nil => intro acc _; simp [lcGo]
    | cons y r ih =>
      intro acc hy
      rw [List.map_cons]
      unfold lcGo
      rw [h y (hy y List.mem_cons_self), bindP_some, ih _ fun z hz => hy z (List.mem_cons_of_mem _ hz)]
      cases q : g y with
      | none => simp [List.filterMap_cons, q]
      | some w => simp [List.filterMap_cons, q]
  rw [key xs [] fun y hy => hy, bindP_some]
  simp
theorem lcS_if {t : Tgt} {test : BG} {elt : EG} {S S1 : Sd} {x y : PyData} {ps : Pt} {b : Bool} (ht : t x S = some S1) (hb : test S1 ps = some (b, ps)) (he : b = true → elt S1 ps = some (y, ps)) : lcStep t test elt S x ps = some (if b then some y else none, ps) := by
  unfold lcStep
  rw [ht]
  simp only [hb, bindP_some]
  cases b with
  | true => simp [he rfl]
  | false => simp
theorem gt_int (i j : Int) : gtI (.int i) (.int j) = some (.bool (decide (j < i))) := rfl
def dictK (l : Ln) : List Str × (Str → Int) := l.foldl (fun s p => (insS s.1 p.1, updF s.2 p.1 p.2)) ([], fun _ => 0)
theorem pairs_enc (l : Ln) : pairsOf (l.map encP) = some (l.map fun p => ((.inr p.1 : Key), PyData.int p.2)) := by
  induction l with
  | nil => rfl
  | cons p r ih =>
    rw [List.map_cons, encP, pairsOf, ih]
    rfl
theorem merge_enc : ∀ (l : Ln) (s : List Str × (Str → Int)), mergeE (encD s.1 s.2) (l.map fun p => ((.inr p.1 : Key), PyData.int p.2)) = encD (l.foldl (fun s p => (insS s.1 p.1, updF s.2 p.1 p.2)) s).1 (l.foldl (fun s p => (insS s.1 p.1, updF s.2 p.1 p.2)) s).2 := by
  intro l
  induction l with
  | nil => intro s; rfl
  | cons p r ih =>
    intro s
    show mergeE (putE (encD s.1 s.2) (.inr p.1) (.int p.2)) _ = _
    rw [put_enc]
    exact ih (insS s.1 p.1, updF s.2 p.1 p.2)
theorem dict_enc {x : PyData} (l : Ln) (hx : x = .list (l.map encP) ∨ x = .tuple (l.map encP)) : one dictD [x] = some (.dict (encD (dictK l).1 (dictK l).2)) := by
  have e : (pairsOf (l.map encP)).map (fun ps => PyData.dict (mergeE [] ps)) = some (.dict (encD (dictK l).1 (dictK l).2)) := by
    rw [pairs_enc]
    exact congrArg (fun z => some (PyData.dict z)) (merge_enc l ([], fun _ => 0))
  rcases hx with rfl | rfl <;> exact e
theorem ge_int (i j : Int) : geI (.int i) (.int j) = some (.bool (decide (j ≤ i))) := rfl
theorem dictK_app (l : Ln) (p : Str × Int) : dictK (l ++ [p]) = (insS (dictK l).1 p.1, updF (dictK l).2 p.1 p.2) := by
  unfold dictK
  rw [List.foldl_append]
  rfl
theorem dictK_spec {B : Int} : ∀ (n : Nat) (l : Ln), l.length = n → (∀ p ∈ l, 1 ≤ p.2 ∧ p.2 < B) → (dictK l).1.Nodup ∧ (∀ z, z ∈ (dictK l).1 ↔ ∃ p ∈ l, p.1 = z) ∧ ∀ z ∈ (dictK l).1, 1 ≤ (dictK l).2 z ∧ (dictK l).2 z < B := by
  intro n
  induction n with
  | zero =>
    intro l hl _
    cases l with
    | nil => exact ⟨List.nodup_nil, fun z => by simp [dictK], fun z hz => by simp [dictK] at hz⟩
    | cons p r => simp at hl
  | succ n ih =>
    intro l hl hp
    rcases List.eq_nil_or_concat l with rfl | ⟨m, p, rfl⟩
    · simp at hl
    · rw [List.concat_eq_append] at hl hp ⊢
      obtain ⟨i1, i2, i3⟩ := ih m (by simpa using hl) fun q hq => hp q (List.mem_append_left _ hq)
      rw [dictK_app]
      refine ⟨ins_nodup i1, fun z => ?_, fun z hz => ?_⟩
      · show z ∈ insS _ _ ↔ _
        rw [ins_mem, i2]
        constructor
        · rintro (⟨q, hq, e⟩ | e)
          · exact ⟨q, List.mem_append_left _ hq, e⟩
          · exact ⟨p, by simp, e.symm⟩
        · rintro ⟨q, hq, e⟩
          rcases List.mem_append.mp hq with hq | hq
          · exact .inl ⟨q, hq, e⟩
          · rw [List.mem_singleton] at hq
            subst hq
            exact .inr e.symm
      · show 1 ≤ updF _ _ _ z ∧ updF _ _ _ z < B
        unfold updF
        by_cases e : z = p.1
        · rw [if_pos e]
          exact hp p (by simp)
        · rw [if_neg e]
          rcases ins_mem.mp hz with h | h
          · exact i3 z h
          · exact absurd h e
theorem wf_line {b : Nat} {l : Ln} (h : LnOk b l) (hb : 0 < b) (hb2 : b ≤ 900) : wf 12 (encL l) = true ∧ (encL l).depth ≤ 2 := by
  refine ⟨wf_tup.mpr ⟨?_, fun d hd => ?_⟩, ?_⟩
  · rw [List.length_map]
    exact Nat.le_trans h.len (by decide)
  · obtain ⟨p, hp, rfl⟩ := List.mem_map.mp hd
    refine wf_tup.mpr ⟨by simp, fun d hd => ?_⟩
    rcases List.mem_cons.mp hd with rfl | hd
    · exact name_wf (h.nm p hp)
    · rw [List.mem_singleton.mp hd, wf]
      have := log_of (h.ps p hp) hb
      exact decide_eq_true (by omega)
  · have : PyData.depthAll (l.map encP) ≤ 1 := depthAll_le fun d hd => by
      obtain ⟨p, hp, rfl⟩ := List.mem_map.mp hd
      simp [encP, PyData.depth, PyData.depthAll]
    show (PyData.tuple (l.map encP)).depth ≤ 2
    rw [PyData.depth]
    omega
theorem bnd3 : bnd 3 = 10389676 := by decide
theorem repr_wf {d : PyData} (hb : isBox d = true) (h : wf 12 d = true) (hd : d.depth ≤ 3) : reprD d = some (.str d.shown) := by
  obtain ⟨a1, a2⟩ := wf_free d h
  have h1 := sh_le (Nat.le_refl 12) d 3 h hd
  rw [bnd3] at h1
  exact repr_at hb a1 a2 (by omega) (by omega)
theorem wf_list_of {ds : List PyData} (hl : ds.length ≤ 12) (h : ∀ d ∈ ds, wf 12 d = true ∧ d.depth ≤ 2) : wf 12 (.list ds) = true ∧ (PyData.list ds).depth ≤ 3 := by
  refine ⟨wf_lst.mpr ⟨hl, fun d hd => (h d hd).1⟩, ?_⟩
  have := depthAll_le (k := 2) fun d hd => (h d hd).2
  rw [PyData.depth]
  omega
theorem repr_list {ds : List PyData} (hl : ds.length ≤ 12) (h : ∀ d ∈ ds, wf 12 d = true ∧ d.depth ≤ 2) : one reprD [.list ds] = some (.str (PyData.list ds).shown) := repr_wf rfl (wf_list_of hl h).1 (wf_list_of hl h).2
theorem wf_int {i : Int} (h : i.natAbs.log2 < 1000) : wf 12 (.int i) = true ∧ (PyData.int i).depth ≤ 2 := ⟨decide_eq_true h, by rw [PyData.depth]; decide⟩
theorem ne_str (a : Str) : neD (.str a) (.str a) = some (.bool false) := by
  unfold neD orD
  simp [neS]
theorem lcgo_rel {α : Type} {e : α → PyData} {R : α → PyData → Prop} {f : PyData → Pt → Option (Option PyData × Pt)} : ∀ (xs : List α) (p : Pt) (acc : List PyData), POk p → (∀ x ∈ xs, ∀ p, POk p → ∃ (y : PyData) (p' : Pt), POk p' ∧ R x y ∧ f (e x) p = some (some y, p')) →
    ∃ (ys : List PyData) (p' : Pt), POk p' ∧ Paired R xs ys ∧ lcGo f (xs.map e) p acc = some (acc ++ ys, p')
  | [], p, acc, hp, _ => ⟨[], p, hp, .nil, by simp [lcGo]⟩
  | x :: xs, p, acc, hp, h => by
    obtain ⟨y, p1, h1, h2, h3⟩ := h x List.mem_cons_self p hp
    obtain ⟨ys, p2, i1, i2, i3⟩ := lcgo_rel xs p1 (acc ++ [y]) h1 fun z hz => h z (List.mem_cons_of_mem _ hz)
    refine ⟨y :: ys, p2, i1, .cons h2 i2, ?_⟩
    rw [List.map_cons]
    unfold lcGo
    rw [h3, bindP_some]
    simp only
    rw [i3, List.append_assoc]
    rfl
theorem lc_relp {α : Type} {e : α → PyData} {R : α → PyData → Prop} {it : AG} {t : Tgt} {elt : EG} {vs : List Nat} {S0 : Sd} {ps p1 : Pt} {xs : List α} (hi : it S0 ps = some (xs.map e, p1)) (hp : POk p1) (hl : xs.length ≤ 1000) (h : ∀ x ∈ xs, ∀ p, POk p → ∃ (y : PyData) (p' : Pt), POk p' ∧ R x y ∧ lcStep t bYes elt (wipeD S0 vs) (e x) p = some (some y, p')) :
    ∃ (ys : List PyData) (p' : Pt), POk p' ∧ Paired R xs ys ∧ eLc it t bYes elt vs S0 ps = some (.list ys, p') := by
  obtain ⟨ys, p', i1, i2, i3⟩ := lcgo_rel (f := lcStep t bYes elt (wipeD S0 vs)) xs p1 [] hp h
  refine ⟨ys, p', i1, i2, ?_⟩
  unfold eLc
  rw [hi, bindP_some, if_pos (fits_of (by rw [List.length_map]; exact hl)), i3]
  rfl
theorem draw_at {S0 : Sd} {ps : Pt} (m : Int) (h0 : S0[0]? = some (.dat potD)) (hm : 0 < m) (hm2 : m < 1606938044258990275541962092341162602522202993782792835301376) (hp : POk ps) : ∃ (v : Int) (p' : Pt), POk p' ∧ 0 ≤ v ∧ v < m ∧ eCall drawFW (aCons (eVar 0) (aCons (eC (.int m)) aNil)) S0 ps = some (.int v, p') := by
  obtain ⟨v, e, v0, v1, ok⟩ := draw_ok (m := m) hp hm hm2
  exact ⟨v, _, ok, v0, v1, eCall_at (aCons_two (var_at h0) (g2 := eC (.int m)) rfl) e⟩
theorem pick_at {S0 : Sd} {ps p1 : Pt} {g : EG} {x : PyData} {ds : List PyData} (h0 : S0[0]? = some (.dat potD)) (hg : g S0 ps = some (x, p1)) (hx : x = .list ds ∨ x = .tuple ds) (hp : POk p1) (hl : 0 < ds.length) (hl2 : ds.length ≤ 1000) : ∃ d ∈ ds, ∃ p', POk p' ∧ eCall q_pick (aCons (eVar 0) (aCons g aNil)) S0 ps = some (d, p') := by
  obtain ⟨d, hd, p', e, ok⟩ := pick_ok hx hp hl hl2
  exact ⟨d, hd, p', ok, eCall_at (aCons_two (var_at h0) hg) e⟩
def RN (z : Str) (y : PyData) : Prop := ∃ i : Int, y = encP (z, i) ∧ 1 ≤ i ∧ i < 2 ^ 100
theorem rn_line : ∀ {zs : List Str} {ys : List PyData}, Paired RN zs ys → ∃ l : Ln, ys = l.map encP ∧ l.map (·.1) = zs ∧ ∀ p ∈ l, 1 ≤ p.2 ∧ p.2 < 2 ^ 100
  | [], _, .nil => ⟨[], rfl, rfl, fun p hp => by cases hp⟩
  | z :: zs, _, .cons ⟨i, e, h1, h2⟩ h => by
    obtain ⟨l, e1, e2, e3⟩ := rn_line h
    refine ⟨(z, i) :: l, by rw [e, e1]; rfl, by rw [List.map_cons, e2], fun p hp => ?_⟩
    rcases List.mem_cons.mp hp with rfl | hp
    · exact ⟨h1, h2⟩
    · exact e3 p hp
structure FrOk (fr : List Str) : Prop where
  nd : fr.Nodup
  nm : ∀ z ∈ fr, nameS z = true
  len : fr.length ≤ 6
theorem ix_zero (n : Nat) : ixN (n + 1) 0 = some 0 := by
  unfold ixN
  rw [if_pos (by decide), if_pos (by omega)]
  rfl
theorem at_zero {α : Type} (x : α) (xs : List α) : atI (x :: xs) 0 = some x := by
  unfold atI
  rw [List.length_cons, ix_zero]
  rfl
theorem range_at {gs : AG} {S : Sd} {ps p : Pt} {n : Nat} (hn : n ≤ 1000) (h : gs S ps = some ([.int (n : Int)], p)) : iRange gs S ps = some ((List.range n).map (fun (i : Nat) => PyData.int (i : Int)), p) := by
  unfold iRange
  rw [h]
  have hb : (decide (-(2 ^ 62) ≤ (n : Int)) && decide ((n : Int) < 2 ^ 62)) = true := by
    rw [Bool.and_eq_true, decide_eq_true_eq, decide_eq_true_eq]
    constructor <;> omega
  simp only [hb, if_true, Int.toNat_natCast]
  rfl
theorem seq_set {i : Nat} {g : EG} {b : SG} {S S1 : Sd} {ps p : Pt} {d : PyData} {R : Option (OutS × Pt)} (h : g S ps = some (d, p)) (hS : S.set i (.dat d) = S1) (hb : b S1 p = R) : sSeq (sSet i g) b S ps = R := by
  rw [sSeq_nx (sSet_at h), hS]
  exact hb
theorem seq_par {i j : Nat} {gs : AG} {b : SG} {S S1 : Sd} {ps p : Pt} {x y : PyData} {R : Option (OutS × Pt)} (h : gs S ps = some ([x, y], p)) (hS : (S.set i (.dat x)).set j (.dat y) = S1) (hb : b S1 p = R) : sSeq (sPar i j gs) b S ps = R := by
  have : sPar i j gs S ps = some (.nx S1, p) := by
    unfold sPar
    rw [h]
    simp only
    rw [hS]
  rw [sSeq_nx this]
  exact hb
theorem seq_no {t : BG} {a b : SG} {S : Sd} {ps p : Pt} {R : Option (OutS × Pt)} (h : t S ps = some (false, p)) (hb : b S p = R) : sSeq (sIf t a sNil) b S ps = R := by
  have : sIf t a sNil S ps = some (.nx S, p) := by
    rw [sIf_at h]
    rfl
  rw [sSeq_nx this]
  exact hb
theorem lst_at {gs : AG} {S : Sd} {ps p : Pt} {ds : List PyData} (h : gs S ps = some (ds, p)) (hl : ds.length ≤ 1000) : eLst gs S ps = some (.list ds, p) := by
  unfold eLst
  rw [h, bindP_some, if_pos (fits_of hl)]
theorem a3_at {a b c : EG} {S : Sd} {ps : Pt} {x y z : PyData} (h1 : a S ps = some (x, ps)) (h2 : b S ps = some (y, ps)) (h3 : c S ps = some (z, ps)) : aCons a (aCons b (aCons c aNil)) S ps = some ([x, y, z], ps) := aCons_at h1 (aCons_two h2 h3)
theorem lnil (b : Nat) : LnOk b [] := ⟨fun p hp => absurd hp List.not_mem_nil, fun p hp => absurd hp List.not_mem_nil, rfl, by decide⟩
theorem or_no {g h : BG} {S : Sd} {ps : Pt} (h1 : g S ps = some (false, ps)) (h2 : h S ps = some (false, ps)) : bOr g h S ps = some (false, ps) := by
  unfold bOr
  rw [h1, bindP_some, if_neg (by decide)]
  exact h2
theorem iof_at {x : PyData} {ds : List PyData} {S : Sd} {ps : Pt} {i : Nat} (hx : x = .list ds ∨ x = .tuple ds) (hi : S[i]? = some (.dat x)) : iOf (eVar i) S ps = some (ds, ps) := by
  unfold iOf
  rw [var_at hi, bindP_some]
  rcases hx with rfl | rfl <;> rfl
theorem in_strs {z : Str} {N : List Str} (h : PyData.strOk z = true) (hN : ∀ y ∈ N, PyData.strOk y = true) : inD false (.str z) (.list (N.map .str)) = some (.bool (decide (z ∈ N))) := by
  show (if SeqAt.shaped (.str z) && SeqAt.shaped (.list (N.map .str)) then some (PyData.bool ((N.map PyData.str).any fun y => PyData.eqv y (.str z))) else none) = _
  rw [shaped_str h, shaped_strs hN, any_strs]
  rfl
theorem tup2_at {a b : EG} {S : Sd} {ps p p2 : Pt} {x y : PyData} (h1 : a S ps = some (x, p)) (h2 : b S p = some (y, p2)) : eTup (aCons a (aCons b aNil)) S ps = some (.tuple [x, y], p2) := by
  unfold eTup
  rw [aCons_two h1 h2, bindP_some]
  rfl
theorem ne_same {zs : List Str} (h : ∀ z ∈ zs, PyData.strOk z = true) : neD (.list (zs.map .str)) (.list (zs.map .str)) = some (.bool false) := by
  show neD0 _ _ = _
  unfold neD0
  rw [shaped_strs h]
  simp only [PyData.eqv, eqv_strs]
  simp
theorem look1 (f : Str) (d : PyData) : List.lookup f [(f, d)] = some d := by simp [List.lookup]
end PL
set_option Elab.async false
set_option linter.all false
set_option maxRecDepth 100000
set_option maxHeartbeats 2000000
namespace PL
open PySem L2 DL
local instance : TBL := ⟨[], fun _ => 0, fun _ => [], fun _ => none, w00⟩
def qg_line : SG := (sSeq (sSet 3 (eLc (iOf (eVar 1)) (tName 4) bYes (eTup (aCons (eVar 4) (aCons (eCall drawFW (aCons (eVar 0) (aCons (eOp addD (eVar 2) (eC (.int 1))) aNil))) aNil))) [4])) (sRet (eCB (one tupleD) (aCons (eLc (iOf (eVar 3)) (tName 5) (asB (eOp gtI (eOp ixD (eVar 5) (eC (.int 1))) (eC (.int 0)))) (eVar 5) [5]) aNil))))
def q_line : List PyData → Pt → Option (PyData × Pt) := runF 6 qg_line
theorem exX_nx {g : EG} {S : Sd} {ps p : Pt} (h : g S ps = some (.none, p)) : sExprX g S ps = some (.nx S, p) := by
  unfold sExprX
  rw [h]
  rfl
theorem exX_rt {g : EG} {S : Sd} {ps p : Pt} {c : Str} {fs : List (Str × PyData)} (h : g S ps = some (excD c fs, p)) : sExprX g S ps = some (.rt (excD c fs), p) := by
  unfold sExprX
  rw [h, bindP_some, excOf_excD]
theorem raise1_at {c f : Str} {g : EG} {S : Sd} {ps p : Pt} {d : PyData} (h : g S ps = some (d, p)) : sRaise c [f] (aCons g aNil) S ps = some (.rt (excD c [(f, d)]), p) := by
  unfold sRaise
  rw [aCons_one h, bindP_some]
  rfl
theorem forGo_rt {t : Tgt} {body : SG} {x : PyData} {xs : List PyData} {S S0 : Sd} {ps p : Pt} {d : PyData} (ht : t x S = some S0) (hb : body S0 ps = some (.rt d, p)) : forGo t body (x :: xs) S ps = some (.rt d, p) := by
  rw [forGo]
  simp only [ht, hb]
abbrev lnB : SG := sIf (bNot (asB (eCall q_is_line (aCons (eVar 1) aNil)))) (sRaise (Str.ofString "InvalidLine") [Str.ofString "value"] (aCons (eVar 1) aNil)) sNil
theorem lines_go {b : Nat} (ps : Pt) (x : SV) (rest : List PyData) : ∀ (ls : List Ln) (a : SV), (∀ l ∈ ls, LnOk b l) → ∃ a', forGo (tName 1) lnB (ls.map encL ++ rest) [x, a] ps = forGo (tName 1) lnB rest [x, a'] ps
  | [], a, _ => ⟨a, rfl⟩
  | l :: ls, a, h => by
    obtain ⟨a', e⟩ := lines_go ps x rest ls (.dat (encL l)) fun y hy => h y (List.mem_cons_of_mem _ hy)
    refine ⟨a', ?_⟩
    have t : lnB [x, .dat (encL l)] ps = some (.nx [x, .dat (encL l)], ps) := by
      unfold lnB
      rw [sIf_at (bNot_at (asB_at (eCall_at (aCons_one rfl) (is_line_at (h l List.mem_cons_self) ps))))]
      rfl
    rw [List.map_cons, List.cons_append, forGo_nx (S0 := [x, .dat (encL l)]) rfl t]
    exact e
theorem len_seq {x : PyData} {ds : List PyData} (hx : x = .list ds ∨ x = .tuple ds) : lenD x = some (.int ds.length) := by rcases hx with rfl | rfl <;> rfl
theorem is_line_not {d : PyData} (ps : Pt) (h : wf 12 d = true) (ht : isT d = false) : q_is_line [d] ps = some (.bool false, ps) := by
  apply run_rt
  show qg_is_line [.dat d, .un, .un, .un] ps = _
  have e := isi_tup h
  rw [ht] at e
  have t1 := bOr_at (h := bNot (asB (eCB (one allD) (aCons (eLc (iOf (eVar 0)) (tName 3) bYes (eCall q_is_part (aCons (eVar 3) aNil)) [3]) aNil)))) (c := true) (p2 := ps) (bNot_at (asB_at (eUn_at (g := eVar 0) (S := [.dat d, .un, .un, .un]) (ps := ps) rfl e))) (fun z => by cases z) (fun _ => rfl)
  unfold qg_is_line
  exact sSeq_rt ((sIf_at t1).trans rfl)
theorem is_line_parts {ds : List PyData} {b : PyData → Bool} (ps : Pt) (hp : ∀ d ∈ ds, q_is_part [d] ps = some (.bool (b d), ps)) (hl : ds.length ≤ 1000) (ha : ds.all b = false) : q_is_line [.tuple ds] ps = some (.bool false, ps) := by
  apply run_rt
  show qg_is_line [.dat (.tuple ds), .un, .un, .un] ps = _
  have a1 : eLc (iOf (eVar 0)) (tName 3) bYes (eCall q_is_part (aCons (eVar 3) aNil)) [3] [.dat (.tuple ds), .un, .un, .un] ps = some (.list (ds.map fun d => PyData.bool (b d)), ps) :=
    lc_enc (e := id) (xs := ds) (by rw [List.map_id]; rfl) hl fun d hd => lcS_at (S1 := [.dat (.tuple ds), .un, .un, .dat d]) rfl (eCall_at (aCons_one rfl) (hp d hd))
  have a2 := asB_at ((eCB_at (aCons_one a1) (allD_bools b ds)))
  rw [ha] at a2
  have t1 := bOr_at (bNot_at (asB_at (eUn_at (o := isiD "tuple") (g := eVar 0) (S := [.dat (.tuple ds), .un, .un, .un]) (ps := ps) rfl (isi_tup_at _)))) (fun _ => bNot_at a2) (fun z => by cases z)
  unfold qg_is_line
  exact sSeq_rt ((sIf_at t1).trans rfl)
theorem is_part_no {d : PyData} (ps : Pt) (h : wf 12 d = true) (ht : isT d = false) : q_is_part [d] ps = some (.bool false, ps) := by
  apply run_rt
  show qg_is_part [.dat d] ps = _
  have e := isi_tup h
  rw [ht] at e
  unfold qg_is_part
  exact sRet_at (eAnd_at (b := false) (c := true) (eUn_at (g := eVar 0) rfl e) fun z => by cases z)
theorem is_line_asc {l : Ln} (ps : Pt) (nm : ∀ p ∈ l, nameS p.1 = true) (h1 : ∀ p ∈ l, 1 ≤ p.2) (hl : l.length ≤ 1000) : q_is_line [encL l] ps = some (.bool (ascS (l.map (·.1))), ps) := by
  apply run_rt
  show qg_is_line [.dat (encL l), .un, .un, .un] ps = _
  have a1 : eLc (iOf (eVar 0)) (tName 3) bYes (eCall q_is_part (aCons (eVar 3) aNil)) [3] [.dat (encL l), .un, .un, .un] ps = some (.list (l.map fun _ => PyData.bool true), ps) :=
    lc_enc (e := encP) (xs := l) (g := fun _ => PyData.bool true) rfl hl fun p hp => lcS_at (S1 := [.dat (encL l), .un, .un, .dat (encP p)]) rfl (eCall_at (aCons_one rfl) (is_part_at (nm p hp) (h1 p hp) ps))
  have a2 : asB (eCB (one allD) (aCons (eLc (iOf (eVar 0)) (tName 3) bYes (eCall q_is_part (aCons (eVar 3) aNil)) [3]) aNil)) [.dat (encL l), .un, .un, .un] ps = some (true, ps) := by
    refine asB_at ((eCB_at (aCons_one a1) (allD_bools (fun _ => true) l)).trans ?_)
    rw [all_true fun _ _ => rfl]
  have t1 := bOr_at (bNot_at (asB_at (eUn_at (o := isiD "tuple") (g := eVar 0) (S := [.dat (encL l), .un, .un, .un]) (ps := ps) rfl (isi_tup_at _)))) (fun _ => bNot_at a2) (fun z => by cases z)
  unfold qg_is_line
  rw [sSeq_nx (S1 := [.dat (encL l), .un, .un, .un]) (p := ps) (by rw [sIf_at t1]; rfl)]
  have a3 : eLc (iOf (eVar 0)) (tTup 2 (tlCons (tName 1) (tlCons (tName 2) tlNil))) bYes (eVar 1) [1, 2] [.dat (encL l), .un, .un, .un] ps = some (.list ((l.map (·.1)).map .str), ps) := by
    have := lc_enc (e := encP) (xs := l) (g := fun p => PyData.str p.1) (it := iOf (eVar 0)) (t := tTup 2 (tlCons (tName 1) (tlCons (tName 2) tlNil))) (test := bYes) (elt := eVar 1) (vs := [1, 2]) (S0 := [.dat (encL l), .un, .un, .un]) (ps := ps) rfl hl fun p hp => lcS_at (S1 := [.dat (encL l), .dat (.str p.1), .dat (.int p.2), .un]) rfl rfl
    rw [this, List.map_map]
    rfl
  refine sRet_at (eCall_at (aCons_one a3) ?_)
  rw [is_rising _ ps (by rw [List.length_map]; exact hl)]
def sA : Str := Str.ofString "a"
def sB : Str := Str.ofString "b"
theorem getE_cons (e : PyData × PyData) (es : List (PyData × PyData)) (k : Key) : getE (e :: es) k = if DL.keyOf e.1 = some k then some e.2 else getE es k := by
  unfold getE
  rw [List.find?_cons]
  by_cases h : DL.keyOf e.1 = some k
  · rw [decide_eq_true h, if_pos h]
    rfl
  · rw [decide_eq_false h, if_neg h]
theorem getE_map (k k' : Key) (d : PyData) : ∀ es : List (PyData × PyData), getE (es.map fun (e : PyData × PyData) => if DL.keyOf e.1 = some k then (e.1, d) else e) k' = if k' = k then (getE es k).map (fun _ => d) else getE es k'
  | [] => by
    show none = _
    split <;> rfl
  | e :: es => by
    rw [List.map_cons, getE_cons, getE_cons, getE_map k k' d es]
    by_cases h : DL.keyOf e.1 = some k
    · rw [if_pos h]
      dsimp only
      by_cases h2 : k' = k
      · subst h2
        rw [if_pos h, if_pos rfl, if_pos h]
        rfl
      · rw [if_neg h2, if_neg h2]
        by_cases h3 : DL.keyOf e.1 = some k'
        · exact absurd (Option.some.inj (h3.symm.trans h)) h2
        · rw [if_neg h3, getE_cons, if_neg h3]
    · rw [if_neg h, if_neg h]
      by_cases h2 : k' = k
      · subst h2
        rw [if_neg h, if_pos rfl, if_pos rfl]
      · rw [if_neg h2, if_neg h2, getE_cons]
theorem cut_lo (ds : List PyData) (k : Nat) : cutL ds (some (k : Int)) none = ds.drop k := by
  unfold cutL
  rw [HT.sIx_nat, HT.sIx_none]
  by_cases h : k ≤ ds.length
  · rw [Nat.min_eq_left h, List.take_of_length_le (by rw [List.length_drop]; omega)]
  · rw [Nat.min_eq_right (by omega), List.drop_length, List.drop_of_length_le (by omega)]
    simp
theorem add_lists {x y : List PyData} (h : x.length + y.length ≤ 1000) : addD (.list x) (.list y) = some (.list (x ++ y)) := by
  have e : addL (.list x) (.list y) = some (.list (x ++ y)) := by
    unfold addL
    dsimp only
    rw [if_pos (decide_eq_true (by omega))]
  unfold addD
  rw [orD, show addI (.list x) (.list y) = none from rfl]
  dsimp only
  rw [orD, show addS (.list x) (.list y) = none from rfl]
  dsimp only
  rw [orD, e]
theorem drawn {S0 : Sd} {ps p1 : Pt} {i : Nat} {gm : EG} {m : Int} (h0 : S0[i]? = some (.dat potD)) (hg : gm S0 ps = some (.int m, p1)) (hm : 0 < m) (hm2 : m < 1606938044258990275541962092341162602522202993782792835301376) (hp : POk p1) : ∃ (v : Int) (p' : Pt), POk p' ∧ 0 ≤ v ∧ v < m ∧ eCall drawFW (aCons (eVar i) (aCons gm aNil)) S0 ps = some (.int v, p') := by
  obtain ⟨v, e, v0, v1, ok⟩ := draw_ok (m := m) hp hm hm2
  exact ⟨v, _, ok, v0, v1, eCall_at (aCons_two (var_at h0) hg) e⟩
theorem picked {S0 : Sd} {ps p1 : Pt} {i : Nat} {g : EG} {ds : List PyData} (h0 : S0[i]? = some (.dat potD)) (hg : g S0 ps = some (.list ds, p1)) (hp : POk p1) (hl : 0 < ds.length) (hl2 : ds.length ≤ 1000) : ∃ d ∈ ds, ∃ p', POk p' ∧ eCall q_pick (aCons (eVar i) (aCons g aNil)) S0 ps = some (d, p') := by
  obtain ⟨d, hd, p', e, ok⟩ := pick_ok (x := .list ds) (.inl rfl) hp hl hl2
  exact ⟨d, hd, p', ok, eCall_at (aCons_two (var_at h0) hg) e⟩
def RZ (B : Int) (z : Str) (y : PyData) : Prop := ∃ i : Int, y = encP (z, i) ∧ 0 ≤ i ∧ i < B
theorem rz_line {B : Int} : ∀ {zs : List Str} {ys : List PyData}, Paired (RZ B) zs ys → ∃ l : Ln, ys = l.map encP ∧ l.map (·.1) = zs ∧ ∀ p ∈ l, 0 ≤ p.2 ∧ p.2 < B
  | [], _, .nil => ⟨[], rfl, rfl, fun p hp => by cases hp⟩
  | z :: zs, _, .cons ⟨i, e, h1, h2⟩ h => by
    obtain ⟨l, e1, e2, e3⟩ := rz_line h
    refine ⟨(z, i) :: l, by rw [e, e1]; rfl, by rw [List.map_cons, e2], fun p hp => ?_⟩
    rcases List.mem_cons.mp hp with rfl | hp
    · exact ⟨h1, h2⟩
    · exact e3 p hp
theorem line_dr {fr : List Str} {up : Int} {ps : Pt} (hf : fr.length ≤ 6) (u0 : 0 ≤ up) (u1 : up ≤ 9) (hp : POk ps) : ∃ (l : Ln) (p' : Pt), POk p' ∧ (l.map (·.1)).Sublist fr ∧ (∀ p ∈ l, 1 ≤ p.2 ∧ p.2 < 10) ∧ q_line [potD, .list (fr.map .str), .int up] ps = some (encL l, p') := by
  obtain ⟨ys, p1, ok1, hr, e1⟩ := lc_relp (R := RZ 10) (e := PyData.str) (xs := fr) (it := iOf (eVar 1)) (t := tName 4) (elt := eTup (aCons (eVar 4) (aCons (eCall drawFW (aCons (eVar 0) (aCons (eOp addD (eVar 2) (eC (.int 1))) aNil))) aNil))) (vs := [4]) (S0 := [.dat potD, .dat (.list (fr.map .str)), .dat (.int up), .un, .un, .un]) (ps := ps) (p1 := ps) rfl hp (by omega) fun z hz p hp => by
    obtain ⟨v, p2, ok2, v0, v1, e2⟩ := drawn (S0 := [.dat potD, .dat (.list (fr.map .str)), .dat (.int up), .un, .dat (.str z), .un]) (ps := p) (p1 := p) (i := 0) (gm := eOp addD (eVar 2) (eC (.int 1))) (m := up + 1) rfl (eOp_at rfl rfl (add_ii _ _)) (by omega) (by omega) hp
    exact ⟨encP (z, v), p2, ok2, ⟨v, rfl, v0, by omega⟩, lcS_dr (S1 := [.dat potD, .dat (.list (fr.map .str)), .dat (.int up), .un, .dat (.str z), .un]) rfl (tup2_at rfl e2)⟩
  obtain ⟨m, rfl, hn, hc⟩ := rz_line hr
  have ml : m.length ≤ 6 := by
    have : (m.map (·.1)).length = fr.length := by rw [hn]
    rw [List.length_map] at this
    omega
  have e2 := lc_opt (e := encP) (xs := m) (g := fun p => if decide (0 < p.2) then some (encP p) else none) (it := iOf (eVar 3)) (t := tName 5) (test := asB (eOp gtI (eOp ixD (eVar 5) (eC (.int 1))) (eC (.int 0)))) (elt := eVar 5) (vs := [5]) (S0 := [.dat potD, .dat (.list (fr.map .str)), .dat (.int up), .dat (.list (m.map encP)), .un, .un]) (ps := p1) rfl (by omega) fun p _ => lcS_if (S1 := [.dat potD, .dat (.list (fr.map .str)), .dat (.int up), .dat (.list (m.map encP)), .un, .dat (encP p)]) rfl (asB_at (eOp_at (eOp_at rfl rfl rfl) rfl (gt_int _ _))) fun _ => rfl
  have e3 : m.filterMap (fun p => if decide (0 < p.2) then some (encP p) else none) = (m.filter fun p => decide (0 < p.2)).map encP := by
    clear e1 e2 hr hn hc ml
    induction m with
    | nil => rfl
    | cons a r ih =>
      rw [List.filterMap_cons, List.filter_cons]
      by_cases h : 0 < a.2
      · simp only [decide_eq_true h, if_true, List.map_cons, ih]
      · simp only [decide_eq_false h, ih]
        rfl
  rw [e3] at e2
  refine ⟨m.filter fun p => decide (0 < p.2), p1, ok1, ?_, fun p hp => ?_, ?_⟩
  · rw [← hn]
    exact List.Sublist.map _ List.filter_sublist
  · obtain ⟨h1, h2⟩ := List.mem_filter.mp hp
    have := hc p h1
    have := of_decide_eq_true h2
    omega
  · apply run_rt
    show qg_line [.dat potD, .dat (.list (fr.map .str)), .dat (.int up), .un, .un, .un] ps = _
    unfold qg_line
    exact seq_set e1 rfl (sRet_at (eCB_at (aCons_one e2) rfl))
end PL
set_option Elab.async false
set_option linter.all false
set_option maxRecDepth 100000
set_option maxHeartbeats 2000000
namespace PL
open PySem L2 DL
local instance : TBL := ⟨[], fun _ => 0, fun _ => [], fun _ => none, w00⟩
theorem want_bad {b : Nat} {x d : PyData} {ls : List Ln} {rest : List PyData} (ps : Pt) (hx : x = .list (ls.map encL ++ d :: rest) ∨ x = .tuple (ls.map encL ++ d :: rest)) (h : ∀ l ∈ ls, LnOk b l) (hd : q_is_line [d] ps = some (.bool false, ps)) : q_want_lines [x] ps = some (excD (Str.ofString "InvalidLine") [(Str.ofString "value", d)], ps) := by
  obtain ⟨a', e⟩ := lines_go ps (.dat x) (d :: rest) ls .un h
  apply run_rt
  show qg_want_lines [.dat x, .un] ps = _
  unfold qg_want_lines sFor
  rw [iof_at hx rfl, bindP_some]
  refine Eq.trans e ?_
  refine forGo_rt (S0 := [.dat x, .dat d]) rfl ?_
  unfold lnB
  rw [sIf_at (bNot_at (asB_at (eCall_at (aCons_one rfl) hd)))]
  exact raise1_at rfl
theorem len_lst {ds : List PyData} : one lenD [.list ds] = some (.int ds.length) := rfl
theorem le_int (i j : Int) : leI (.int i) (.int j) = some (.bool (decide (i ≤ j))) := rfl
end PL
set_option Elab.async false
set_option linter.all false
set_option maxRecDepth 100000
set_option maxHeartbeats 2000000
namespace PL
open PySem L2 DL
local instance : TBL := ⟨[], fun _ => 0, fun _ => [], fun _ => none, w00⟩
def partOk : PyData → Bool
  | .tuple [a, b] => nameOk a && isInt 1 b
  | _ => false
theorem is_part_any {d : PyData} (ps : Pt) (h : wf 12 d = true) : q_is_part [d] ps = some (.bool (partOk d), ps) := by
  cases d with
  | tuple ds =>
    obtain ⟨hl, hw⟩ := wf_tup.mp h
    apply run_rt
    show qg_is_part [.dat (.tuple ds)] ps = _
    have e2 := eOp_at (eCB_at (o := one lenD) (aCons_one (g1 := eVar 0) (S0 := [.dat (.tuple ds)]) (x := .tuple ds) (p := ps) (p1 := ps) rfl) (len_seq (.inr rfl))) (h := eC (.int 2)) rfl (eq_int _ 2)
    unfold qg_is_part
    by_cases h2 : ((ds.length : Nat) : Int) = 2
    · rw [decide_eq_true h2] at e2
      match ds, hl, hw, h2 with
      | [a, b], _, hw, _ =>
        have n1 := is_name ps (hw a (by simp))
        have n2 := is_integer 1 ps (hw b (by simp))
        exact sRet_at (eAnd_at (b := true) (c := nameOk a && isInt 1 b) (eUn_at rfl (isi_tup_at _)) fun _ => eAnd_at (b := true) (c := nameOk a && isInt 1 b) e2 fun _ => eAnd_at (b := nameOk a) (c := isInt 1 b) (eCall_at (aCons_one (eOp_at rfl rfl rfl)) n1) fun _ => eCall_at (aCons_two (eOp_at rfl rfl rfl) rfl) n2)
      | [], _, _, h2 => simp at h2
      | [_], _, _, h2 => simp at h2
      | _ :: _ :: _ :: _, _, _, h2 => simp at h2; omega
    · rw [decide_eq_false h2] at e2
      have hp : partOk (.tuple ds) = false := by
        unfold partOk
        split
        · next e => cases e; simp at h2
        · rfl
      rw [hp]
      exact sRet_at (eAnd_at (b := true) (c := false) (eUn_at rfl (isi_tup_at _)) fun _ => eAnd_at (b := false) (c := false) e2 fun z => by cases z)
  | _ => exact is_part_no ps h rfl
def frameOf : PyData → Str
  | .tuple (.str z :: _) => z
  | _ => default
def lineOk : PyData → Bool
  | .tuple ds => ds.all partOk && ascS (ds.map frameOf)
  | _ => false
theorem parts_ln : ∀ {ds : List PyData}, ds.all partOk = true → ∃ l : Ln, ds = l.map encP ∧ (∀ p ∈ l, nameS p.1 = true) ∧ (∀ p ∈ l, 1 ≤ p.2) ∧ ds.map frameOf = l.map (·.1)
  | [], _ => ⟨[], rfl, (fun p hp => by cases hp), (fun p hp => by cases hp), rfl⟩
  | d :: ds, h => by
    rw [List.all_cons, Bool.and_eq_true] at h
    obtain ⟨l, e, h1, h2, h3⟩ := parts_ln h.2
    have hd := h.1
    unfold partOk at hd
    split at hd
    · next a b =>
      rw [Bool.and_eq_true] at hd
      obtain ⟨n1, n2⟩ := hd
      cases a with
      | str z =>
        cases b with
        | int i =>
          refine ⟨(z, i) :: l, by rw [e]; rfl, fun p hp => ?_, fun p hp => ?_, by rw [List.map_cons, List.map_cons, h3]; rfl⟩
          · rcases List.mem_cons.mp hp with rfl | hp
            · exact n1
            · exact h1 p hp
          · rcases List.mem_cons.mp hp with rfl | hp
            · exact of_decide_eq_true n2
            · exact h2 p hp
        | _ => cases n2
      | _ => cases n1
    · cases hd
theorem is_line_any {d : PyData} (ps : Pt) (h : wf 12 d = true) : q_is_line [d] ps = some (.bool (lineOk d), ps) := by
  cases d with
  | tuple ds =>
    obtain ⟨hl, hw⟩ := wf_tup.mp h
    cases ha : ds.all partOk with
    | false =>
      rw [is_line_parts ps (fun d hd => is_part_any ps (hw d hd)) (by omega) ha]
      show _ = some (PyData.bool (ds.all partOk && ascS (ds.map frameOf)), ps)
      rw [ha]
      rfl
    | true =>
      obtain ⟨l, e, h1, h2, h3⟩ := parts_ln ha
      show _ = some (PyData.bool (ds.all partOk && ascS (ds.map frameOf)), ps)
      rw [ha, h3, Bool.true_and]
      subst e
      rw [List.length_map] at hl
      exact is_line_asc ps h1 h2 (by omega)
  | _ => exact is_line_not ps h rfl
end PL
set_option Elab.async false
set_option linter.all false
set_option maxRecDepth 100000
set_option maxHeartbeats 2000000
namespace PL
open PySem L2 DL
local instance : TBL := ⟨[], fun _ => 0, fun _ => [], fun _ => none, w00⟩
def StrKeys (es : List (PyData × PyData)) : Prop := ∀ e ∈ es, ∃ z, e.1 = .str z
theorem StrKeys.np {es : List (PyData × PyData)} (h : StrKeys es) : notPot es = true := by
  cases es with
  | nil => rfl
  | cons e r =>
    obtain ⟨z, hz⟩ := h e List.mem_cons_self
    obtain ⟨k, d⟩ := e
    cases hz
    rfl
theorem getE_app (es : List (PyData × PyData)) (e : PyData × PyData) (k : Key) : getE (es ++ [e]) k = match getE es k with
  | some d => some d
  | none => if DL.keyOf e.1 = some k then some e.2 else none := by
  induction es with
  | nil => rw [List.nil_append, getE_cons]; rfl
  | cons x r ih =>
    rw [List.cons_append, getE_cons, getE_cons, ih]
    split
    · rfl
    · rfl
theorem get_putA (es : List (PyData × PyData)) (z y : Str) (d : PyData) : getE (putE es (.inr z) d) (.inr y) = if y = z then some d else getE es (.inr y) := by
  unfold putE
  by_cases h : (getE es (.inr z)).isSome = true
  · rw [if_pos h, getE_map]
    by_cases hy : y = z
    · subst hy
      rw [if_pos rfl, if_pos rfl]
      obtain ⟨v, hv⟩ := Option.isSome_iff_exists.mp h
      rw [hv]
      rfl
    · rw [if_neg hy, if_neg fun c => hy (Sum.inr.inj c)]
  · rw [if_neg h, getE_app]
    have hn : getE es (.inr z) = none := by
      cases q : getE es (.inr z) with
      | none => rfl
      | some v => rw [q] at h; exact absurd rfl h
    by_cases hy : y = z
    · subst hy
      rw [hn, if_pos rfl]
      dsimp only
      rw [if_pos (keyOf_D _)]
    · rw [if_neg hy]
      split
      · next e => exact e.symm
      · next e =>
        rw [e, if_neg]
        intro c
        have c2 := (keyOf_D (Sum.inr z : Key)).symm.trans c
        exact hy (Sum.inr.inj (Option.some.inj c2)).symm
theorem keys_put {es : List (PyData × PyData)} (h : StrKeys es) (z : Str) (d : PyData) : StrKeys (putE es (.inr z) d) := fun e he => by
  unfold putE at he
  split at he
  · obtain ⟨x, hx, rfl⟩ := List.mem_map.mp he
    split
    · exact h x hx
    · exact h x hx
  · rcases List.mem_append.mp he with he | he
    · exact h e he
    · rw [List.mem_singleton.mp he]
      exact ⟨z, rfl⟩
theorem len_put (es : List (PyData × PyData)) (k : Key) (d : PyData) : (putE es k d).length ≤ es.length + 1 := by
  unfold putE
  split
  · rw [List.length_map]; omega
  · rw [List.length_append]; simp
theorem getE_drop (k k' : Key) : ∀ es : List (PyData × PyData), getE (dropE es k) k' = if k' = k then none else getE es k'
  | [] => by
    show none = _
    split <;> rfl
  | e :: es => by
    have ih := getE_drop k k' es
    unfold dropE at ih ⊢
    rw [List.filter_cons]
    by_cases h : DL.keyOf e.1 = some k
    · rw [decide_eq_false (fun c => c h)]
      rw [if_neg (by simp), ih, getE_cons]
      by_cases h2 : k' = k
      · rw [if_pos h2, if_pos h2]
      · rw [if_neg h2, if_neg h2, if_neg]
        intro c
        rw [h] at c
        exact h2 (Option.some.inj c).symm
    · rw [decide_eq_true h, if_pos rfl, getE_cons, getE_cons, ih]
      by_cases h2 : k' = k
      · rw [if_pos h2, if_pos h2, if_neg]
        intro c
        rw [h2] at c
        exact h c
      · rw [if_neg h2, if_neg h2]
theorem keys_drop {es : List (PyData × PyData)} (h : StrKeys es) (k : Key) : StrKeys (dropE es k) := fun e he => h e (List.mem_filter.mp he).1
theorem len_drop (es : List (PyData × PyData)) (k : Key) : (dropE es k).length ≤ es.length := List.length_filter_le _ _
theorem putD_at {i : Nat} {gk gv : EG} {S : Sd} {ps p p2 : Pt} {es : List (PyData × PyData)} {z : Str} {v : PyData} (h0 : S[i]? = some (.own (.dict es))) (hs : StrKeys es) (hl : es.length ≤ 1000) (hv : gv S ps = some (v, p)) (hk : gk S p = some (.str z, p2)) : sPutD i gk gv S ps = some (.nx (S.set i (.own (.dict (putE es (.inr z) v)))), p2) := by
  unfold sPutD
  rw [hv, bindP_some, h0]
  dsimp only
  rw [hk, bindP_some]
  simp only [DL.keyOf]
  rw [hs.np, decide_eq_true (by omega)]
  rfl
theorem popD_at {i : Nat} {gk : EG} {S : Sd} {ps p : Pt} {es : List (PyData × PyData)} {z : Str} (h0 : S[i]? = some (.own (.dict es))) (hs : StrKeys es) (hg : (getE es (.inr z)).isSome = true) (hk : gk S ps = some (.str z, p)) : sPopD i gk S ps = some (.nx (S.set i (.own (.dict (dropE es (.inr z))))), p) := by
  unfold sPopD
  rw [h0]
  dsimp only
  rw [hk, bindP_some]
  simp only [DL.keyOf]
  rw [hs.np, hg]
  rfl
theorem lcS_ifd {t : Tgt} {test : BG} {elt : EG} {S S1 : Sd} {x y : PyData} {ps p' : Pt} {b : Bool} (ht : t x S = some S1) (hb : test S1 ps = some (b, p')) (he : b = true → elt S1 p' = some (y, p')) : lcStep t test elt S x ps = some (if b then some y else none, p') := by
  unfold lcStep
  rw [ht]
  dsimp only
  rw [hb, bindP_some]
  cases b with
  | true => rw [if_pos rfl, he rfl, bindP_some]; rfl
  | false => rfl
theorem eIf_t {t : BG} {a b : EG} {S : Sd} {ps p p' : Pt} {d : PyData} (h : t S ps = some (true, p)) (ha : a S p = some (d, p')) : eIf t a b S ps = some (d, p') := by
  unfold eIf
  rw [h, bindP_some, if_pos rfl, ha]
theorem eIf_f {t : BG} {a b : EG} {S : Sd} {ps p p' : Pt} {d : PyData} (h : t S ps = some (false, p)) (hb : b S p = some (d, p')) : eIf t a b S ps = some (d, p') := by
  unfold eIf
  rw [h, bindP_some, if_neg (by simp), hb]
end PL
set_option Elab.async false
set_option linter.all false
set_option maxRecDepth 100000
set_option maxHeartbeats 2000000
namespace PL
open PySem L2 DL
local instance : TBL := ⟨[], fun _ => 0, fun _ => [], fun _ => none, w00⟩
end PL
set_option Elab.async false
set_option linter.all false
set_option maxRecDepth 100000
set_option maxHeartbeats 2000000
namespace PL
open PySem L2 DL
local instance : TBL := ⟨[], fun _ => 0, fun _ => [], fun _ => none, w00⟩
def stepK (s : List Str × (Str → Int)) (p : Str × Int) : List Str × (Str → Int) := (insS s.1 p.1, updF s.2 p.1 (s.2 p.1 + p.2))
structure SumOk (s : List Str × (Str → Int)) : Prop where
  nd : s.1.Nodup
  zr : ∀ z, z ∉ s.1 → s.2 z = 0
theorem SumOk.step {s : List Str × (Str → Int)} (h : SumOk s) (p : Str × Int) : SumOk (stepK s p) := by
  refine ⟨ins_nodup h.nd, fun z hz => ?_⟩
  have hz' : ¬ (z ∈ s.1 ∨ z = p.1) := fun e => hz (ins_mem.mpr e)
  show updF s.2 p.1 _ z = 0
  unfold updF
  rw [if_neg fun e => hz' (.inr e), h.zr z fun e => hz' (.inl e)]
end PL
set_option Elab.async false
set_option linter.all false
set_option maxRecDepth 100000
set_option maxHeartbeats 2000000
namespace DL
open PySem PySem.W PySem.Calls PyProof.Rows PyProof.V PySem.Spec L2
variable [TBL] {X : Cx}
end DL
set_option Elab.async false
set_option linter.all false
set_option maxRecDepth 100000
set_option maxHeartbeats 2000000
namespace PL
open PySem L2 DL
noncomputable section
local instance : TBL := ⟨[], fun _ => 0, fun _ => [], fun _ => none, w00⟩
def qg_lname : SG := (sSeq (sSet 2 (eC (.str (Str.ofString "abcdefghijklmnopqrstuvwxyz")))) (sSeq (sSet 3 (eOp ixD (eLst (aCons (eC (.int 1)) (aCons (eC (.int 1)) (aCons (eC (.int 2)) (aCons (eC (.int 3)) (aCons (eC (.int 8)) aNil)))))) (eCall drawFW (aCons (eVar 0) (aCons (eC (.int 5)) aNil))))) (sSeq (sSet 4 (eOp joinD (eC (.str (Str.ofString ""))) (eLc (iRange (aCons (eVar 3) aNil)) (tName 6) bYes (eOp ixD (eVar 2) (eCall drawFW (aCons (eVar 0) (aCons (eC (.int 26)) aNil)))) [6]))) (sSeq (sSet 5 (eOp addD (eLst (aCons (eVar 4) aNil)) (eLc (iRange (aCons (eC (.int 90)) aNil)) (tName 7) bYes (eOp addD (eOp addD (eC (.str (Str.ofString "z"))) (eOp ixD (eVar 2) (eOp fdivI (eVar 7) (eC (.int 26))))) (eOp ixD (eVar 2) (eOp modI (eVar 7) (eC (.int 26))))) [7]))) (sRet (eOp ixD (eLc (iOf (eVar 5)) (tName 8) (bAnd (asB (eOp (inD true) (eVar 8) (eVar 1))) (asB (eCall q_is_name (aCons (eVar 8) aNil)))) (eVar 8) [8]) (eC (.int 0))))))))
def q_lname : List PyData → Pt → Option (PyData × Pt) := runF 9 qg_lname
def qg_lnames : SG := (sSeq (sNew 3) (sSeq (sFor (iRange (aCons (eVar 1) aNil)) (tName 4) (sApp 3 (eFrz 3 (eCall q_lname (aCons (eVar 0) (aCons (eOp addD (eVar 2) (eVar 3)) aNil)))))) (sFrz 3 (sRet (eVar 3)))))
def q_lnames : List PyData → Pt → Option (PyData × Pt) := runF 5 qg_lnames
def qg_lsome : SG := (sSeq (sSet 3 (eLc (iOf (eVar 1)) (tName 4) (asB (eOp eqD (eCall drawFW (aCons (eVar 0) (aCons (eC (.int 2)) aNil))) (eC (.int 0)))) (eVar 4) [4])) (sRet (eIf (asB (eOp geI (eCB (one lenD) (aCons (eVar 3) aNil)) (eVar 2))) (eVar 3) (eCB (one listD) (aCons (eSl (eVar 1) oNone (oSome (eVar 2))) aNil)))))
def q_lsome : List PyData → Pt → Option (PyData × Pt) := runF 5 qg_lsome
end
end PL
set_option Elab.async false
set_option linter.all false
set_option maxRecDepth 100000
set_option maxHeartbeats 2000000
namespace PL
open PySem L2 DL
noncomputable section
local instance : TBL := ⟨[], fun _ => 0, fun _ => [], fun _ => none, w00⟩
def w90 : List Str := (List.range 90).map fun k => ⟨#[122, 97 + k / 26, 97 + k % 26]⟩
theorem w90_nodup : w90.Nodup := by decide +kernel
theorem w90_name : ∀ z ∈ w90, nameS z = true := by decide +kernel
theorem w90_wf : ∀ z ∈ w90, wf 12 (.str z) = true := by decide +kernel
theorem strsL_map (zs : List Str) : strsL (zs.map .str) = some zs := by
  induction zs with
  | nil => rfl
  | cons z r ih =>
    show (strsL (r.map .str)).map (z :: ·) = _
    rw [ih]
    rfl
theorem let_len : LET.length = 26 := by decide +kernel
theorem let_codes : LET.cps.toList = (List.range 26).map fun k => 97 + k := by decide +kernel
theorem let_at {k : Nat} (hk : k < 26) : ixD (.str LET) (.int (k : Int)) = some (.str ⟨#[97 + k]⟩) := by
  have e : ixN LET.cps.toList.length (k : Int) = some k := by
    rw [let_codes, List.length_map, List.length_range]
    unfold ixN
    rw [if_pos (by omega), if_pos (by omega)]
    rfl
  show (if decide (LET.length ≤ 16777216) then (atI LET.cps.toList (k : Int)).map fun c => PyData.str ⟨#[c]⟩ else none) = _
  rw [let_len, if_pos (by decide)]
  unfold atI
  rw [e, let_codes]
  simp [hk]
def RL (_ : Nat) (y : PyData) : Prop := ∃ k : Nat, k < 123 ∧ y = .str ⟨#[k]⟩
theorem rl_list : ∀ {xs : List Nat} {ys : List PyData}, Paired RL xs ys → ∃ cs : List Nat, ys = (cs.map fun k => (⟨#[k]⟩ : Str)).map .str ∧ cs.length = xs.length ∧ ∀ c ∈ cs, c < 123
  | [], _, .nil => ⟨[], rfl, rfl, fun c h => by cases h⟩
  | x :: xs, _, .cons ⟨k, hk, e⟩ h => by
    obtain ⟨cs, e1, e2, e3⟩ := rl_list h
    refine ⟨k :: cs, by rw [e, e1]; rfl, by rw [List.length_cons, List.length_cons, e2], fun c hc => ?_⟩
    rcases List.mem_cons.mp hc with rfl | hc
    · exact hk
    · exact e3 c hc
theorem nin_strs {z : Str} {tk : List Str} (hz : PyData.strOk z = true) (hk : ∀ y ∈ tk, PyData.strOk y = true) : inD true (.str z) (.list (tk.map .str)) = some (.bool (!decide (z ∈ tk))) := by
  show (if SeqAt.shaped (.str z) && SeqAt.shaped (.list (tk.map .str)) then some (PyData.bool (!((tk.map PyData.str).any fun y => PyData.eqv y (.str z)))) else none) = _
  rw [shaped_str hz, shaped_strs hk, any_strs]
  rfl
theorem z_words (x0 x1 x3 x4 x5 x6 x8 : SV) (x7 : SV) (ps : Pt) : eLc (iRange (aCons (eC (.int 90)) aNil)) (tName 7) bYes (eOp addD (eOp addD (eC (.str (Str.ofString "z"))) (eOp ixD (eVar 2) (eOp fdivI (eVar 7) (eC (.int 26))))) (eOp ixD (eVar 2) (eOp modI (eVar 7) (eC (.int 26))))) [7] [x0, x1, .dat (.str LET), x3, x4, x5, x6, x7, x8] ps = some (.list (w90.map .str), ps) := by
  have e := lc_enc (e := fun (i : Nat) => PyData.int (i : Int)) (it := iRange (aCons (eC (.int 90)) aNil)) (t := tName 7) (test := bYes) (elt := eOp addD (eOp addD (eC (.str (Str.ofString "z"))) (eOp ixD (eVar 2) (eOp fdivI (eVar 7) (eC (.int 26))))) (eOp ixD (eVar 2) (eOp modI (eVar 7) (eC (.int 26))))) (vs := [7]) (S0 := [x0, x1, .dat (.str LET), x3, x4, x5, x6, x7, x8]) (ps := ps) (xs := List.range 90) (g := fun k => .str ⟨#[122, 97 + k / 26, 97 + k % 26]⟩) (range_at (n := 90) (by decide) rfl) (by decide) fun k hk => by
    have hk : k < 90 := List.mem_range.mp hk
    refine lcS_at (S1 := [x0, x1, .dat (.str LET), x3, x4, x5, x6, .dat (.int (k : Int)), x8]) rfl ?_
    have d1 : fdivI (.int (k : Int)) (.int 26) = some (.int ((k / 26 : Nat) : Int)) := by
      have c : (decide (0 < (26 : Int)) && decide ((26 : Int).natAbs.log2 < 9000)) = true := by decide +kernel
      show (if (decide (0 < (26 : Int)) && decide ((26 : Int).natAbs.log2 < 9000)) = true then some (PyData.int ((k : Int) / 26)) else none) = _
      rw [if_pos c]
      simp
    have d2 : modI (.int (k : Int)) (.int 26) = some (.int ((k % 26 : Nat) : Int)) := by
      show (if decide (0 < (26 : Int)) = true then some (PyData.int ((k : Int) % 26)) else none) = _
      rw [if_pos (by decide)]
      simp
    exact eOp_at (x := .str ⟨#[122, 97 + k / 26]⟩) (eOp_at (x := .str (Str.ofString "z")) rfl (eOp_at (x := .str LET) rfl (eOp_at (x := .int k) rfl rfl d1) (let_at (by omega))) rfl) (eOp_at (x := .str LET) rfl (eOp_at (x := .int k) rfl rfl d2) (let_at (by omega))) rfl
  rw [e]
  unfold w90
  rw [List.map_map]
  rfl
theorem str_nodup_len : ∀ {l m : List Str}, l.Nodup → (∀ x ∈ l, x ∈ m) → l.length ≤ m.length
  | [], m, _, _ => Nat.zero_le _
  | x :: r, m, h, hs => by
    have hx := hs x List.mem_cons_self
    have hn := List.nodup_cons.mp h
    have := str_nodup_len (l := r) (m := m.erase x) hn.2 fun y hy => (List.mem_erase_of_ne (fun c : y = x => hn.1 (by rw [← c]; exact hy))).mpr (hs y (List.mem_cons_of_mem _ hy))
    rw [List.length_erase_of_mem hx] at this
    have := List.length_pos_of_mem hx
    rw [List.length_cons]
    omega
theorem fresh_one {tk : List Str} (hl : tk.length < 90) : ∃ z ∈ w90, z ∉ tk := by
  refine Classical.byContradiction fun h => ?_
  have hs : ∀ z ∈ w90, z ∈ tk := fun z hz => Classical.byContradiction fun c => h ⟨z, hz, c⟩
  have := str_nodup_len w90_nodup hs
  have l90 : w90.length = 90 := by decide +kernel
  omega
end
end PL
set_option Elab.async false
set_option linter.all false
set_option maxRecDepth 100000
set_option maxHeartbeats 2000000
namespace PL
open PySem L2 DL
noncomputable section
local instance : TBL := ⟨[], fun _ => 0, fun _ => [], fun _ => none, w00⟩
theorem sum_ones : ∀ cs : List Nat, (((cs.map fun k => (⟨#[k]⟩ : Str)).map fun z : Str => z.length).sum : Nat) = cs.length
  | [] => rfl
  | c :: r => by
    rw [List.map_cons, List.map_cons, List.sum_cons, sum_ones r, List.length_cons]
    show 1 + r.length = _
    omega
theorem bAnd_at {g h : BG} {S : Sd} {ps : Pt} {b c : Bool} (h1 : g S ps = some (b, ps)) (h2 : h S ps = some (c, ps)) : bAnd g h S ps = some (b && c, ps) := by
  unfold bAnd
  rw [h1, bindP_some]
  cases b with
  | true => exact h2
  | false => rfl
theorem filt_map (xs : List Str) (p : Str → Bool) (g : PyData → Option PyData) (h : ∀ z ∈ xs, g (.str z) = if p z then some (.str z) else none) : (xs.map PyData.str).filterMap g = (xs.filter p).map .str := by
  induction xs with
  | nil => rfl
  | cons x r ih =>
    have hx := h x List.mem_cons_self
    have ih := ih fun z hz => h z (List.mem_cons_of_mem _ hz)
    rw [List.map_cons, List.filterMap_cons, hx, List.filter_cons]
    cases p x with
    | true => rw [if_pos rfl, if_pos rfl, List.map_cons, ih]
    | false => rw [if_neg Bool.false_ne_true, if_neg Bool.false_ne_true, ih]
theorem ones_ok (cs : List Nat) (hl : cs.length ≤ 8) (hc : ∀ c ∈ cs, c < 123) : ∃ w : Str, PyData.strOk w = true ∧ w.length ≤ 8 ∧ joinD (.str (Str.ofString "")) (.list ((cs.map fun k => (⟨#[k]⟩ : Str)).map .str)) = some (.str w) := by
  have ej : Str.join (Str.ofString "") (cs.map fun k => (⟨#[k]⟩ : Str)) = ⟨cs.toArray⟩ := PyProof.Rows.join_ones cs
  have sm := sum_ones cs
  refine ⟨⟨cs.toArray⟩, ?_, ?_, ?_⟩
  · show (cs.toArray).all (· < 0x110000) = true
    rw [Array.all_eq_true_iff_forall_mem]
    intro c h
    have := hc c (by simpa using h)
    exact decide_eq_true (by omega)
  · show cs.toArray.size ≤ 8
    rw [List.size_toArray]
    exact hl
  · show (match strsL ((cs.map fun k => (⟨#[k]⟩ : Str)).map .str) with
      | some zs => if decide ((zs.map fun z : Str => z.length).sum + zs.length * (Str.ofString "").length ≤ 16777216) then some (PyData.str (Txt.join (Str.ofString "") zs)) else none
      | none => none) = _
    rw [strsL_map]
    dsimp only
    rw [sm, List.length_map, if_pos (decide_eq_true (by rw [show (Str.ofString "").length = 0 from rfl]; omega))]
    exact congrArg (fun z => some (PyData.str z)) ((beq_iff_eq.mp (PyProof.Rows.join_closes (sep := Str.ofString "") (sep' := Str.ofString "") (ys := cs.map fun k => (⟨#[k]⟩ : Str)) rfl)).trans ej)
theorem word_dr {x1 x2 x4 x5 x6 x7 x8 : SV} (hx : x2 = .dat (.str LET)) {n : Nat} (hn : n ≤ 8) {ps : Pt} (hp : POk ps) : ∃ (w : Str) (p' : Pt), POk p' ∧ PyData.strOk w = true ∧ w.length ≤ 8 ∧ eOp joinD (eC (.str (Str.ofString ""))) (eLc (iRange (aCons (eVar 3) aNil)) (tName 6) bYes (eOp ixD (eVar 2) (eCall drawFW (aCons (eVar 0) (aCons (eC (.int 26)) aNil)))) [6]) [.dat potD, x1, x2, .dat (.int (n : Int)), x4, x5, x6, x7, x8] ps = some (.str w, p') := by
  subst hx
  obtain ⟨ys, p1, ok1, hr, e⟩ := lc_rel (e := fun (i : Nat) => PyData.int (i : Int)) (R := RL) (it := iRange (aCons (eVar 3) aNil)) (t := tName 6) (elt := eOp ixD (eVar 2) (eCall drawFW (aCons (eVar 0) (aCons (eC (.int 26)) aNil)))) (vs := [6]) (S0 := [.dat potD, x1, .dat (.str LET), .dat (.int (n : Int)), x4, x5, x6, x7, x8]) (ps := ps) (xs := List.range n) (range_at (n := n) (by omega) rfl) hp (by rw [List.length_range]; omega) fun k hk p hp => by
    obtain ⟨v, p2, ok2, v0, v1, e2⟩ := draw_at (S0 := [.dat potD, x1, .dat (.str LET), .dat (.int (n : Int)), x4, x5, .dat (.int (k : Int)), x7, x8]) (ps := p) 26 rfl (by decide) (by decide) hp
    obtain ⟨j, rfl⟩ : ∃ j : Nat, v = j := ⟨v.toNat, by omega⟩
    exact ⟨.str ⟨#[97 + j]⟩, p2, ok2, ⟨97 + j, by omega, rfl⟩, lcS_dr (S1 := [.dat potD, x1, .dat (.str LET), .dat (.int (n : Int)), x4, x5, .dat (.int (k : Int)), x7, x8]) rfl (eOp_at (x := .str LET) rfl e2 (let_at (by omega)))⟩
  obtain ⟨cs, rfl, hl, hc⟩ := rl_list hr
  rw [List.length_range] at hl
  obtain ⟨w, w1, w2, w3⟩ := ones_ok cs (by omega) hc
  exact ⟨w, p1, ok1, w1, w2, eOp_at (x := .str (Str.ofString "")) rfl e w3⟩
theorem wf_word {z : Str} (h1 : PyData.strOk z = true) (h2 : z.length ≤ 8) : wf 12 (.str z) = true := by
  have hr : ∀ c ∈ z.cps.toList, c < 16 ^ 8 := fun c hc => by
    unfold PyData.strOk at h1
    rw [← Array.all_toList, List.all_eq_true] at h1
    have := of_decide_eq_true (h1 c hc)
    omega
  have h3 := StrLaws.reprText_len z hr
  rw [wf, h1, decide_eq_true (show (reprText z).length ≤ 6010 by omega), decide_eq_true (show z.length ≤ 600 by omega)]
  rfl
theorem atI_zero (z : Str) (r : List Str) : ixD (.list ((z :: r).map .str)) (.int 0) = some (.str z) := by
  show atI ((z :: r).map PyData.str) 0 = _
  unfold atI ixN
  rw [if_pos (by decide), if_pos (by rw [List.map_cons, List.length_cons]; omega)]
  rfl
theorem name_dr {tk : List Str} (hl : tk.length < 90) (hk : ∀ y ∈ tk, PyData.strOk y = true) {ps : Pt} (hp : POk ps) : ∃ (z : Str) (p' : Pt), POk p' ∧ nameS z = true ∧ PyData.strOk z = true ∧ z ∉ tk ∧ q_lname [potD, .list (tk.map .str)] ps = some (.str z, p') := by
  obtain ⟨v, p1, ok1, v0, v1, e1⟩ := draw_at (S0 := [.dat potD, .dat (.list (tk.map .str)), .dat (.str LET), .un, .un, .un, .un, .un, .un]) (ps := ps) 5 rfl (by decide) (by decide) hp
  obtain ⟨s, hs, es⟩ := atI_ok (xs := [PyData.int 1, .int 1, .int 2, .int 3, .int 8]) v0 (by simpa using v1)
  obtain ⟨n, hn, rfl⟩ : ∃ n : Nat, n ≤ 8 ∧ s = .int (n : Int) := by
    simp only [List.mem_cons, List.not_mem_nil, or_false] at hs
    rcases hs with rfl | rfl | rfl | rfl | rfl
    · exact ⟨1, by decide, rfl⟩
    · exact ⟨1, by decide, rfl⟩
    · exact ⟨2, by decide, rfl⟩
    · exact ⟨3, by decide, rfl⟩
    · exact ⟨8, by decide, rfl⟩
  obtain ⟨w, p2, ok2, w1, w2, e2⟩ := word_dr (x1 := .dat (.list (tk.map .str))) (x2 := .dat (.str LET)) (x4 := .un) (x5 := .un) (x6 := .un) (x7 := .un) (x8 := .un) rfl hn ok1
  have hw : ∀ z ∈ w :: w90, wf 12 (.str z) = true ∧ PyData.strOk z = true := fun z hz => by
    rcases List.mem_cons.mp hz with rfl | hz
    · exact ⟨wf_word w1 w2, w1⟩
    · have := w90_wf z hz
      exact ⟨this, (wf_str this).1⟩
  have e3 := z_words (.dat potD) (.dat (.list (tk.map .str))) (.dat (.int (n : Int))) (.dat (.str w)) .un .un .un .un p2
  let S5 : Sd := [.dat potD, .dat (.list (tk.map .str)), .dat (.str LET), .dat (.int (n : Int)), .dat (.str w), .dat (.list ((w :: w90).map .str)), .un, .un, .un]
  have e4 : eLc (iOf (eVar 5)) (tName 8) (bAnd (asB (eOp (inD true) (eVar 8) (eVar 1))) (asB (eCall q_is_name (aCons (eVar 8) aNil)))) (eVar 8) [8] S5 p2 = some (.list (((w :: w90).filter fun z => !decide (z ∈ tk) && nameS z).map .str), p2) := by
    have := lc_dat (it := iOf (eVar 5)) (t := tName 8) (test := bAnd (asB (eOp (inD true) (eVar 8) (eVar 1))) (asB (eCall q_is_name (aCons (eVar 8) aNil)))) (elt := eVar 8) (vs := [8]) (S0 := S5) (ps := p2) (ds := (w :: w90).map .str) (g := fun d => if (match d with
      | .str z => !decide (z ∈ tk) && nameS z
      | _ => false) then some d else none) rfl (by rw [List.length_map, List.length_cons, show w90.length = 90 by decide +kernel]; decide) fun d hd => by
      obtain ⟨z, hz, rfl⟩ := List.mem_map.mp hd
      obtain ⟨h1, h2⟩ := hw z hz
      have t1 : asB (eOp (inD true) (eVar 8) (eVar 1)) [.dat potD, .dat (.list (tk.map .str)), .dat (.str LET), .dat (.int (n : Int)), .dat (.str w), .dat (.list ((w :: w90).map .str)), .un, .un, .dat (.str z)] p2 = some (!decide (z ∈ tk), p2) := asB_at (eOp_at rfl rfl (nin_strs h2 hk))
      have t2 : asB (eCall q_is_name (aCons (eVar 8) aNil)) [.dat potD, .dat (.list (tk.map .str)), .dat (.str LET), .dat (.int (n : Int)), .dat (.str w), .dat (.list ((w :: w90).map .str)), .un, .un, .dat (.str z)] p2 = some (nameS z, p2) := asB_at (eCall_at (aCons_one rfl) (is_name p2 h1))
      refine lcS_ifd (S1 := [.dat potD, .dat (.list (tk.map .str)), .dat (.str LET), .dat (.int (n : Int)), .dat (.str w), .dat (.list ((w :: w90).map .str)), .un, .un, .dat (.str z)]) rfl (bAnd_at t1 t2) fun _ => rfl
    rw [this, filt_map (w :: w90) (fun z => !decide (z ∈ tk) && nameS z) _ fun z _ => rfl]
  obtain ⟨y, hy, hyn⟩ := fresh_one hl
  cases hq : (w :: w90).filter fun z => !decide (z ∈ tk) && nameS z with
  | nil =>
    exact absurd (List.mem_filter.mpr ⟨List.mem_cons_of_mem w hy, show (!decide (y ∈ tk) && nameS y) = true by rw [decide_eq_false hyn, w90_name y hy]; rfl⟩) (by rw [hq]; exact List.not_mem_nil)
  | cons z r =>
    have hz : z ∈ (w :: w90).filter fun z => !decide (z ∈ tk) && nameS z := by rw [hq]; exact List.mem_cons_self
    obtain ⟨h1, h2⟩ := List.mem_filter.mp hz
    have h2 : (!decide (z ∈ tk) && nameS z) = true := h2
    rw [Bool.and_eq_true] at h2
    rw [hq] at e4
    have hn : z ∉ tk := fun c => by
      rw [decide_eq_true c] at h2
      exact Bool.false_ne_true h2.1
    refine ⟨z, p2, ok2, h2.2, (hw z h1).2, hn, run_rt ?_⟩
    show qg_lname [.dat potD, .dat (.list (tk.map .str)), .un, .un, .un, .un, .un, .un, .un] ps = _
    unfold qg_lname
    refine seq_set (d := .str LET) (p := ps) (S1 := [.dat potD, .dat (.list (tk.map .str)), .dat (.str LET), .un, .un, .un, .un, .un, .un]) rfl rfl ?_
    refine seq_set (d := .int (n : Int)) (p := p1) (S1 := [.dat potD, .dat (.list (tk.map .str)), .dat (.str LET), .dat (.int (n : Int)), .un, .un, .un, .un, .un]) (eOp_at (x := .list [PyData.int 1, .int 1, .int 2, .int 3, .int 8]) rfl e1 es) rfl ?_
    refine seq_set (S1 := [.dat potD, .dat (.list (tk.map .str)), .dat (.str LET), .dat (.int (n : Int)), .dat (.str w), .un, .un, .un, .un]) e2 rfl ?_
    refine seq_set (d := .list ((w :: w90).map .str)) (p := p2) (S1 := S5) (eOp_at (x := .list [.str w]) rfl e3 ?_) rfl ?_
    · exact (by rfl : addD (.list [.str w]) (.list (w90.map .str)) = some (.list ((w :: w90).map .str)))
    · exact sRet_at (eOp_at e4 (show eC (.int 0) S5 p2 = some (.int 0, p2) from rfl) (atI_zero _ _))
end
end PL
set_option Elab.async false
set_option linter.all false
set_option maxRecDepth 100000
set_option maxHeartbeats 2000000
namespace PL
open PySem L2 DL
noncomputable section
local instance : TBL := ⟨[], fun _ => 0, fun _ => [], fun _ => none, w00⟩
def PKn (n : Int) (p : Pt) : Prop := POk p ∧ p.2.2 = n
theorem PKn.pok {n : Int} {p : Pt} (h : PKn n p) : POk p := h.1
theorem drawS_left (m : Int) (ps : Pt) : (drawS m ps).2.2 = ps.2.2 := by
  unfold drawS
  split <;> rfl
theorem draw_k {S0 : Sd} {ps p1 : Pt} {n : Int} {gm : EG} {m : Int} (h0 : S0[0]? = some (.dat potD)) (hg : gm S0 ps = some (.int m, p1)) (hm : 0 < m) (hm2 : m < 1606938044258990275541962092341162602522202993782792835301376) (hp : PKn n p1) : ∃ (v : Int) (p' : Pt), PKn n p' ∧ 0 ≤ v ∧ v < m ∧ eCall drawFW (aCons (eVar 0) (aCons gm aNil)) S0 ps = some (.int v, p') := by
  obtain ⟨v, e, v0, v1, ok⟩ := draw_ok (m := m) hp.1 hm hm2
  exact ⟨v, _, ⟨ok, (drawS_left m p1).trans hp.2⟩, v0, v1, eCall_at (aCons_two (var_at h0) hg) e⟩
theorem lc_someI {I : Pt → Prop} {it : AG} {t : Tgt} {test : BG} {elt : EG} {vs : List Nat} {S0 : Sd} {ps : Pt} {xs : List Str} (hi : it S0 ps = some (xs.map PyData.str, ps)) (hp : I ps) (hl : xs.length ≤ 1000) (h : ∀ x ∈ xs, ∀ p, I p → ∃ (b : Bool) (p' : Pt), I p' ∧ lcStep t test elt (wipeD S0 vs) (.str x) p = some (if b then some (.str x) else none, p')) :
    ∃ (ys : List Str) (p' : Pt), I p' ∧ ys.Sublist xs ∧ eLc it t test elt vs S0 ps = some (.list (ys.map PyData.str), p') := by
  unfold eLc
  rw [hi, bindP_some, if_pos (fits_of (by rw [List.length_map]; exact hl))]
  have key : ∀ (us acc : List Str) (p : Pt), I p → (∀ u ∈ us, u ∈ xs) → ∃ (zs : List Str) (p' : Pt), I p' ∧ zs.Sublist us ∧ lcGo (lcStep t test elt (wipeD S0 vs)) (us.map PyData.str) p (acc.map PyData.str) = some ((acc ++ zs).map PyData.str, p') := by
    intro us
    induction us with
    | nil => exact fun acc p hp _ => ⟨[], p, hp, List.Sublist.refl _, by simp [lcGo]⟩
    | cons u r ih =>
      intro acc p hp hu
      obtain ⟨b, p1, ok1, e1⟩ := h u (hu u List.mem_cons_self) p hp
      rw [List.map_cons]
      unfold lcGo
      rw [e1, bindP_some]
      cases b with
      | true =>
        obtain ⟨zs, p2, ok2, hz, e2⟩ := ih (acc ++ [u]) p1 ok1 fun z hz => hu z (List.mem_cons_of_mem _ hz)
        refine ⟨u :: zs, p2, ok2, hz.cons_cons u, ?_⟩
        rw [List.map_append, List.append_assoc] at e2
        exact e2
      | false =>
        obtain ⟨zs, p2, ok2, hz, e2⟩ := ih acc p1 ok1 fun z hz => hu z (List.mem_cons_of_mem _ hz)
        exact ⟨zs, p2, ok2, hz.cons u, e2⟩
  obtain ⟨zs, p', ok, hz, e1⟩ := key xs [] ps hp fun u hu => hu
  refine ⟨zs, p', ok, hz, ?_⟩
  have e1 : lcGo (lcStep t test elt (wipeD S0 vs)) (xs.map PyData.str) ps [] = some (zs.map PyData.str, p') := e1
  rw [e1]
  rfl
theorem name_strOk {z : Str} (h : nameS z = true) : PyData.strOk z = true := (wf_str (w := 0) (name_wf h)).1
structure NmOk (tk zs : List Str) : Prop where
  nm : ∀ z ∈ zs, nameS z = true
  nd : zs.Nodup
  nt : ∀ z ∈ zs, z ∉ tk
theorem names_dr {tk : List Str} {n : Nat} (hl : tk.length + n < 90) (hk : ∀ y ∈ tk, PyData.strOk y = true) {ps : Pt} (hp : POk ps) : ∃ (zs : List Str) (p' : Pt), POk p' ∧ zs.length = n ∧ NmOk tk zs ∧ q_lnames [potD, .int (n : Int), .list (tk.map .str)] ps = some (.list (zs.map .str), p') := by
  have rl : (rangeD n).length = n := by unfold rangeD; rw [List.length_map, List.length_range]
  let body : SG := sApp 3 (eFrz 3 (eCall q_lname (aCons (eVar 0) (aCons (eOp addD (eVar 2) (eVar 3)) aNil))))
  obtain ⟨S1, p2, e2, ⟨zs, a, rfl, hzl, hz⟩, ok2⟩ := for_inv (t := tName 4) (body := body) (I := fun j S => ∃ (zs : List Str) (a : SV), S = [.dat potD, .dat (.int (n : Int)), .dat (.list (tk.map .str)), .own (.list (zs.map .str)), a] ∧ zs.length = j ∧ NmOk tk zs) (rangeD n) 0 (fun x hx j S p hj hI hp => by
    obtain ⟨zs, a, rfl, hl2, hd⟩ := hI
    rw [rl] at hj
    obtain ⟨z, p', ok', h1, h2, h3, e⟩ := name_dr (tk := tk ++ zs) (by rw [List.length_append]; omega) (fun y hy => by
      rcases List.mem_append.mp hy with h | h
      · exact hk y h
      · exact name_strOk (hd.nm y h)) hp
    rw [List.mem_append, not_or] at h3
    refine ⟨_, [.dat potD, .dat (.int (n : Int)), .dat (.list (tk.map .str)), .own (.list ((zs ++ [z]).map .str)), .dat x], p', rfl, ?_, ⟨zs ++ [z], _, rfl, by rw [List.length_append, hl2]; rfl, ⟨fun y hy => ?_, ?_, fun y hy => ?_⟩⟩, ok'⟩
    · show sApp 3 _ [.dat potD, .dat (.int (n : Int)), .dat (.list (tk.map .str)), .own (.list (zs.map .str)), .dat x] p = _
      unfold sApp
      rw [show ([.dat potD, .dat (.int (n : Int)), .dat (.list (tk.map .str)), .own (.list (zs.map .str)), .dat x] : Sd)[3]? = some (.own (.list (zs.map .str))) from rfl]
      dsimp only
      rw [if_pos (decide_eq_true (by rw [List.length_map]; omega))]
      have ec : eCall q_lname (aCons (eVar 0) (aCons (eOp addD (eVar 2) (eVar 3)) aNil)) [.dat potD, .dat (.int (n : Int)), .dat (.list (tk.map .str)), .dat (.list (zs.map .str)), .dat x] p = some (.str z, p') := by
        refine eCall_at (aCons_two rfl (eOp_at rfl rfl ?_)) e
        rw [List.map_append]
        exact add_lists (by rw [List.length_map, List.length_map]; omega)
      have ef : eFrz 3 (eCall q_lname (aCons (eVar 0) (aCons (eOp addD (eVar 2) (eVar 3)) aNil))) [.dat potD, .dat (.int (n : Int)), .dat (.list (tk.map .str)), .own (.list (zs.map .str)), .dat x] p = some (.str z, p') := by
        unfold eFrz
        rw [show frz 3 [.dat potD, .dat (.int (n : Int)), .dat (.list (tk.map .str)), .own (.list (zs.map .str)), .dat x] = [.dat potD, .dat (.int (n : Int)), .dat (.list (tk.map .str)), .dat (.list (zs.map .str)), .dat x] from rfl, ec, bindP_some]
        rfl
      rw [ef, bindP_some, List.map_append]
      rfl
    · rcases List.mem_append.mp hy with h | h
      · exact hd.nm y h
      · rw [List.mem_singleton.mp h]
        exact h1
    · refine List.nodup_append.mpr ⟨hd.nd, List.nodup_cons.mpr ⟨List.not_mem_nil, List.nodup_nil⟩, fun a ha b hb => ?_⟩
      rw [List.mem_singleton.mp hb]
      exact fun c => h3.2 (c ▸ ha)
    · rcases List.mem_append.mp hy with h | h
      · exact hd.nt y h
      · rw [List.mem_singleton.mp h]
        exact h3.1) [.dat potD, .dat (.int (n : Int)), .dat (.list (tk.map .str)), .own (.list []), .un] ps ⟨[], .un, rfl, rfl, ⟨fun z h => absurd h List.not_mem_nil, List.nodup_nil, fun z h => absurd h List.not_mem_nil⟩⟩ hp
  refine ⟨zs, p2, ok2, by omega, hz, ?_⟩
  apply run_rt
  show qg_lnames [.dat potD, .dat (.int (n : Int)), .dat (.list (tk.map .str)), .un, .un] ps = _
  unfold qg_lnames
  rw [sSeq_nx (S1 := [.dat potD, .dat (.int (n : Int)), .dat (.list (tk.map .str)), .own (.list []), .un]) (p := ps) rfl]
  have ef : sFor (iRange (aCons (eVar 1) aNil)) (tName 4) body [.dat potD, .dat (.int (n : Int)), .dat (.list (tk.map .str)), .own (.list []), .un] ps = some (.nx [.dat potD, .dat (.int (n : Int)), .dat (.list (tk.map .str)), .own (.list (zs.map .str)), a], p2) := by
    unfold sFor
    have ei : iRange (aCons (eVar 1) aNil) [.dat potD, .dat (.int (n : Int)), .dat (.list (tk.map .str)), .own (.list []), .un] ps = some (rangeD n, ps) := range_at (by omega) rfl
    rw [ei, bindP_some]
    exact e2
  rw [sSeq_nx ef]
  rfl
theorem some_k {zs : List Str} {n : Int} {ps : Pt} (h0 : zs ≠ []) (hl : zs.length ≤ 1000) (hp : PKn n ps) : ∃ (ys : List Str) (p' : Pt), PKn n p' ∧ ys ≠ [] ∧ ys.Sublist zs ∧ q_lsome [potD, .list (zs.map .str), .int 1] ps = some (.list (ys.map .str), p') := by
  let S0 : Sd := [.dat potD, .dat (.list (zs.map .str)), .dat (.int 1), .un, .un]
  obtain ⟨ys, p1, ok1, hy, e1⟩ := lc_someI (I := PKn n) (it := iOf (eVar 1)) (t := tName 4) (test := asB (eOp eqD (eCall drawFW (aCons (eVar 0) (aCons (eC (.int 2)) aNil))) (eC (.int 0)))) (elt := eVar 4) (vs := [4]) (S0 := S0) (ps := ps) (xs := zs) rfl hp hl fun x hx p hp => by
    obtain ⟨v, p', ok, v0, v1, e⟩ := draw_k (S0 := [.dat potD, .dat (.list (zs.map .str)), .dat (.int 1), .un, .dat (.str x)]) (ps := p) (p1 := p) (gm := eC (.int 2)) (m := 2) rfl rfl (by decide) (by decide) hp
    exact ⟨decide (v = 0), p', ok, lcS_ifd (S1 := [.dat potD, .dat (.list (zs.map .str)), .dat (.int 1), .un, .dat (.str x)]) rfl (asB_at (eOp_at e rfl (eq_int v 0))) fun _ => rfl⟩
  have fin : ∀ b : Bool, decide ((1 : Int) ≤ ((ys.map PyData.str).length : Int)) = b → q_lsome [potD, .list (zs.map .str), .int 1] ps = some (if b then .list (ys.map .str) else .list ((zs.take 1).map .str), p1) := fun b hb => by
    apply run_rt
    show qg_lsome S0 ps = _
    unfold qg_lsome
    refine seq_set e1 (S1 := [.dat potD, .dat (.list (zs.map .str)), .dat (.int 1), .dat (.list (ys.map .str)), .un]) rfl (sRet_at ?_)
    have t : asB (eOp geI (eCB (one lenD) (aCons (eVar 3) aNil)) (eVar 2)) [.dat potD, .dat (.list (zs.map .str)), .dat (.int 1), .dat (.list (ys.map .str)), .un] p1 = some (b, p1) := by
      rw [← hb]
      exact asB_at (eOp_at (eCB_at (aCons_one rfl) len_lst) rfl rfl)
    cases b with
    | true => exact eIf_t t rfl
    | false =>
      refine eIf_f t (eCB_at (aCons_one (sl_lst (k := 1) rfl rfl)) ?_)
      rw [← List.map_take]
      rfl
  by_cases hb : 1 ≤ ys.length
  · refine ⟨ys, p1, ok1, fun c => ?_, hy, ?_⟩
    · rw [c] at hb
      exact absurd hb (by decide)
    · exact fin true (decide_eq_true (by rw [List.length_map]; omega))
  · refine ⟨zs.take 1, p1, ok1, fun c => ?_, List.take_sublist 1 zs, ?_⟩
    · cases zs with
      | nil => exact h0 rfl
      | cons z r => cases c
    · exact fin false (decide_eq_false (by rw [List.length_map]; omega))
end
end PL
set_option Elab.async false
set_option linter.all false
set_option maxRecDepth 100000
set_option maxHeartbeats 2000000
namespace PL
open PySem L2 DL
noncomputable section
local instance : TBL := ⟨[], fun _ => 0, fun _ => [], fun _ => none, w00⟩
inductive St where
  | take (n : Int) (f : Str)
  | shut (zs : List Str)
  | call (f : Str) (as : List Str)
  | doo (p : Str)
  | stop
  | room (b : List St)
  | eith (a b : List St)
  | loop (r : Option Int) (b : List St)
abbrev S_ (z : String) : PyData := .str (Str.ofString z)
def encR : Option Int → PyData
  | none => .none
  | some i => .int i
mutual
def encS : St → PyData
  | .take n f => .tuple [S_ "take", .int n, .str f]
  | .shut zs => .tuple [S_ "shut", .tuple (zs.map .str)]
  | .call f as => .tuple [S_ "call", .str f, .tuple (as.map .str)]
  | .doo p => .tuple [S_ "do", .str p]
  | .stop => .tuple [S_ "stop"]
  | .room b => .tuple [S_ "room", .tuple (encB b)]
  | .eith a b => .tuple [S_ "either", .tuple (encB a), .tuple (encB b)]
  | .loop r b => .tuple [S_ "loop", encR r, .tuple (encB b)]
def encB : List St → List PyData
  | [] => []
  | s :: r => encS s :: encB r
end
mutual
def szS : St → Nat
  | .room b => szB b + 1
  | .eith a b => szB a + szB b + 1
  | .loop _ b => szB b + 1
  | _ => 1
def szB : List St → Nat
  | [] => 0
  | s :: r => szS s + szB r
end
structure BC where
  fr : List Str
  it : List Str
  calls : List (Str × Nat)
  pas : List Str
  par : List Str
def okR : Option Int → Prop
  | none => True
  | some i => 1 ≤ i ∧ i ≤ 1000000000000
mutual
def okS (c : BC) : Nat → St → Prop
  | _, .take n f => 1 ≤ n ∧ n < 10 ^ 30 ∧ f ∈ c.fr
  | _, .shut zs => zs ≠ [] ∧ zs.Sublist c.it
  | _, .call f as => ∃ k, (f, k) ∈ c.calls ∧ as.length = k ∧ ∀ a ∈ as, a ∈ c.pas
  | _, .doo p => p ∈ c.par
  | _, .stop => True
  | d, .room b => 0 < d ∧ b.length ≤ 12 ∧ okB c (d - 1) b
  | d, .eith a b => 0 < d ∧ (a.length ≤ 12 ∧ okB c (d - 1) a) ∧ b.length ≤ 12 ∧ okB c (d - 1) b
  | d, .loop r b => 0 < d ∧ okR r ∧ b.length ≤ 12 ∧ okB c (d - 1) b
def okB (c : BC) : Nat → List St → Prop
  | _, [] => True
  | d, s :: r => okS c d s ∧ okB c d r
end
def encC (p : Str × Nat) : PyData := .tuple [.str p.1, .int (p.2 : Int)]
def ctxD (c : BC) : PyData := .dict [(S_ "frames", .list (c.fr.map .str)), (S_ "interrupts", .list (c.it.map .str)), (S_ "calls", .list (c.calls.map encC)), (S_ "pass", .list (c.pas.map .str)), (S_ "params", .list (c.par.map .str)), (S_ "left", lefD)]
structure BCok (c : BC) : Prop where
  fr : c.fr ≠ [] ∧ c.fr.length ≤ 30 ∧ ∀ z ∈ c.fr, nameS z = true
  it : c.it.length ≤ 30 ∧ ∀ z ∈ c.it, nameS z = true
  calls : c.calls.length ≤ 30 ∧ ∀ p ∈ c.calls, nameS p.1 = true ∧ p.2 ≤ 2 ∧ (p.2 ≠ 0 → c.pas ≠ [])
  pas : c.pas.length ≤ 60 ∧ ∀ z ∈ c.pas, nameS z = true
  par : c.par.length ≤ 2 ∧ ∀ z ∈ c.par, nameS z = true
end
end PL
set_option Elab.async false
set_option linter.all false
set_option maxRecDepth 100000
set_option maxHeartbeats 4000000
namespace PL
open PySem L2 DL
noncomputable section
local instance : TBL := ⟨[], fun _ => 0, fun _ => [], fun _ => none, w00⟩
def repB (b : Bool) (l : List PyData) : List PyData := if b then l else []
theorem rep_at {gs : AG} {gn : EG} {S : Sd} {p p' : Pt} {l : List PyData} {b : Bool} (h : gs S p = some (l, p)) (hn : gn S p = some (.int (if b then 1 else 0), p')) (hl : l.length ≤ 1000) : eNewL (aRep gs gn) S p = some (.list (repB b l), p') := by
  unfold eNewL aRep
  rw [h, bindP_some, hn, bindP_some]
  cases b with
  | true =>
    dsimp only
    rw [if_pos (by simp; omega)]
    simp [repB]
  | false =>
    dsimp only
    rw [if_pos (by simp)]
    simp [repB]
def b1 (c : BC) : Bool := !decide (c.calls.map encC = [])
def b2 (c : BC) : Bool := !decide (c.par.map PyData.str = [])
def b5 (c : BC) : Bool := !decide (c.it.map PyData.str = [])
end
end PL
set_option Elab.async false
set_option linter.all false
set_option maxRecDepth 100000
set_option maxHeartbeats 4000000
namespace PL
open PySem L2 DL
noncomputable section
local instance : TBL := ⟨[], fun _ => 0, fun _ => [], fun _ => none, w00⟩
def BodyDr (c : BC) (d : Nat) (fb : List PyData → Pt → Option (PyData × Pt)) : Prop := ∀ (top : Nat), top ≤ 12 → ∀ ps : Pt, POk ps → 0 ≤ ps.2.2 → ∃ (b : List St) (p' : Pt), POk p' ∧ okB c d b ∧ b.length ≤ top ∧ 0 ≤ p'.2.2 ∧ p'.2.2 + szB b ≤ ps.2.2 ∧ fb [potD, ctxD c, .int (d : Int), .int (top : Int)] ps = some (.tuple (encB b), p')
section
variable {c : BC} (hc : BCok c) {d : Nat} {fb : List PyData → Pt → Option (PyData × Pt)} {n : Int} (hn : 0 ≤ n) {x3 : SV} {p : Pt} (hp : PKn n p)
include hn hp
include hc in
include hc in
include hc in
include hc in
end
end
end PL
set_option Elab.async false
set_option linter.all false
set_option maxRecDepth 100000
set_option maxHeartbeats 4000000
namespace PL
open PySem L2 DL
noncomputable section
local instance : TBL := ⟨[], fun _ => 0, fun _ => [], fun _ => none, w00⟩
section
variable {c : BC} {d : Nat} {fb : List PyData → Pt → Option (PyData × Pt)} (hb : BodyDr c d fb) {n : Int} (hn : 0 ≤ n) {x3 : SV} {p : Pt} (hp : PKn n p)
include hb hn hp
end
end
end PL
set_option Elab.async false
set_option linter.all false
set_option maxRecDepth 100000
set_option maxHeartbeats 4000000
namespace PL
open PySem L2 DL
noncomputable section
local instance : TBL := ⟨[], fun _ => 0, fun _ => [], fun _ => none, w00⟩
structure Fn where
  name : Str
  par : List Str
  body : List St
abbrev Hd := Str × List Str
def Fn.hd (f : Fn) : Hd := (f.name, f.par)
theorem sort_asc {zs : List Str} (h : zs.Nodup) : ascS (zs.mergeSort leS) = true := by
  rw [asc_pw]
  have hp := List.mergeSort_perm zs leS
  have hn : (zs.mergeSort leS).Nodup := hp.nodup_iff.mpr h
  have hs : (zs.mergeSort leS).Pairwise fun a b => leS a b = true := List.pairwise_mergeSort (le := leS) (fun a b c h1 h2 => leS_trans h1 h2) leS_total zs
  exact (hs.and hn).imp fun ⟨a, b⟩ => lt_iff.mpr ⟨a, b⟩
end
end PL
set_option Elab.async false
set_option linter.all false
set_option maxRecDepth 100000
set_option maxHeartbeats 2000000
namespace DL
open PySem PySem.Spec PyProof.Rows L2
variable [TBL]
section
variable {X : Cx} {a : Addr} {oe : Obj} {cls : Value} {d : Option Addr} {rs : List Str}
theorem pe_xfP {e : Expr} {te : TE} {pos : Pos} {n : Str} (hpin : (a, oe) ∈ X.pn) (T : ∀ c ∈ rs, XfC X.K (TBL.C c) ∧ PySem.W.findIn X.K (.ref (TBL.C c)) n = some none)
    (hz : Zc cls d oe) (hf : ∃ vs, oe.data = .fields vs) (he : PE X e te) (hb : attributeBase e n X.env (eval e X.env) = eval e X.env) :
    PE X (.Attribute e n pos) (fun σ H Q => te σ H fun x H1 => x = .ref a ∧ ∃ (c : Str), c ∈ rs ∧ cls = .ref (TBL.C c) ∧ ∃ (dd : Addr) (fs : List (Str × V)) (v : V), d = some dd ∧ H1 dd = some (.xd fs) ∧ fs.lookup n = some v ∧ Q v H1) := by
  refine ⟨fun pn s σ H Q J h => ?_⟩
  refine attr_of hb (thn (he.run pn s σ H _ J h) fun w s1 hw => ?_)
  obtain ⟨x, H1, J1, rx, exx, c, hc, ec, dd, fs, v, ed, ea, l, q⟩ := hw
  obtain ⟨T1, T2⟩ := T c hc
  subst exx
  obtain rfl : w = Value.ref a := rx
  subst ec
  subst ed
  have hget := (J1.pin (a, oe) (List.mem_append_left _ hpin)).1
  obtain ⟨vs, hvs⟩ := hf
  obtain ⟨mA, hns, hr⟩ : ObjOk X.prog X.w H1 s1.heap dd (.xd fs) := J1.hok dd _ ea
  obtain ⟨od, ho, hl⟩ := lookIn_ns hns
  obtain ⟨u, hu, ru⟩ := RelO.some_of (v := v) (o := mA n) (by rw [← l]; exact hr n)
  have IA : PySem.W.InstAt s1.heap a oe (TBL.C c) (some od) := ⟨hget, hz.1, by unfold PySem.W.notCls; rw [hvs] <;> rfl, by rw [hz.2]; exact ho⟩
  exact HandSPX.exc_get J1.kIn IA T1.ga T1.gg T1.exC (PySem.W.findObj_own T1.hdC T2 rfl (by rw [hl, hu])) (handed_of ru) ⟨v, H1, J1.tok _, ru, q⟩
def rIsP (K : PySem.W.Frag) (rs : List Str) (cls : Value) (a : Addr) (d : Option Addr) : List V → Hp → VK → Prop := fun xs H Q => ∃ (c0 : Str) (dd : Addr) (fs : List (Str × V)) (c : V) (cv : Value) (b : Bool), c0 ∈ rs ∧ cls = .ref (TBL.C c0) ∧ d = some dd ∧ H dd = some (.xd fs) ∧ xs = [.ref a, c] ∧ (∀ u, RelV c u → u = cv) ∧ PySem.W.kitOne K cls cv = some b ∧ Q (.bl b) H
theorem call_isP (hpin : (a, oe) ∈ X.pn) (C : ∀ c ∈ rs, ExcC X.K (TBL.C c)) (hz : Zc cls d oe) (hf : ∃ vs, oe.data = .fields vs) : CallR X (.builtin "isinstance") (rIsP X.K rs cls a d) := by
  intro pn s σ H xs us Q J r ⟨c0, dd, fs, c, cv, b, hc, ec, ed, ea, hx, hcv, e, q⟩
  subst hx ed ec
  cases r with
  | cons rx rr =>
  cases rr with
  | cons rt rr =>
  cases rr
  cases rx
  obtain rfl := hcv _ rt
  have hget := (J.pin (a, oe) (List.mem_append_left _ hpin)).1
  obtain ⟨vs, hv⟩ := hf
  obtain ⟨mA, hns, _⟩ : ObjOk X.prog X.w H s.heap dd (.xd fs) := J.hok dd _ ea
  obtain ⟨od, ho, _⟩ := lookIn_ns hns
  have IA : PySem.W.InstAt s.heap a oe (TBL.C c0) (some od) := ⟨hget, hz.1, by unfold PySem.W.notCls; rw [hv] <;> rfl, by rw [hz.2]; exact ho⟩
  exact PySem.W.kia_one (kitx_any (C c0 hc)) J.kIn IA e (fun z => nomatch z) fun tk => ⟨.bl b, H, J.kept (t' := tk) fun _ _ z => z, rfl, q⟩
end
def errH (isub : Str → Str → Bool) : List (Str × Str × Str) → Str → Str → HF
  | [], t, f => fun _ fs => (fs.lookup f).map fun x => .list [.str t, x]
  | (D, t1, f1) :: r, t, f => fun c fs => if isub c D then (fs.lookup f1).map fun x => .list [.str t1, x] else errH isub r t f c fs
def TErr (K : PySem.W.Frag) (rs : List Str) (ie : Nat) (h : HF) (a : Addr) (cls : Value) (d : Option Addr) : L2.TS := fun D σ H => ∃ (c : Str) (fs : List (Str × PyData)) (pp : PP) (ps : Pt) (G : Hp) (z : PyData), cls = .ref (TBL.C c) ∧ c ∈ rs ∧ σ[ie]? = some (some (.ref a)) ∧ Cf pp ps G H ∧ XD K pp G H d fs ∧ h c fs = some z ∧
  ∀ v G' H', Go pp ps [] G H G' H' → Rv K pp G' v z → D.rt v H'
section
variable {X : Cx} {a : Addr} {oe : Obj} {cls : Value} {d : Option Addr} {rs : List Str} {ie : Nat} {n : Str}
theorem lst2_end {K : PySem.W.Frag} {pp : PP} {ps : Pt} {G H : Hp} {tag : Str} {v : V} {x : PyData} {Q : VK} (c : Cf pp ps G H) (r : Rv K pp G v x) (k : ∀ v G' H', Go pp ps [] G H G' H' → Rv K pp G' v (.list [.str tag, x]) → Q v H') : ∀ p, H p = none → Q (.ref p) (upd H p (.lst [.str tag, v])) := fun p hp => by
  have gl : Go pp ps [] G H (upd G p (.lst [.str tag, v])) (upd H p (.lst [.str tag, v])) := Go.lay c hp
  exact k _ _ _ gl (.lst (.inl upd_same) (.cons (.str tag) (.cons (Rv.mono gl.gg _ _ r) .nil)))
theorem errs_ret {isub : Str → Str → Bool} {t f : Str} {j : Nat} {p1 p2 p3 p4 pos : Pos} (hpin : (a, oe) ∈ X.pn) (T : ∀ c ∈ rs, XfC X.K (TBL.C c) ∧ PySem.W.findIn X.K (.ref (TBL.C c)) f = some none) (hz : Zc cls d oe) (hf : ∃ vs, oe.data = .fields vs)
    (hie : X.N[ie]? = some n) (hv : Vis X.env.scope n) (hd : (n == ("__debug__" : Str)) = false := by decide) (hcd : (n == ("__classdict__" : Str)) = false := by decide)
    (hb : attributeBase (.Name n p2) f X.env (eval (.Name n p2) X.env) = eval (.Name n p2) X.env := by rfl)
    (hs1 : starEach [.Constant (.str t) j p1, .Attribute (.Name n p2) f p3] X.env = (false, eval (.Constant (.str t) j p1) X.env) :: starEach [.Attribute (.Name n p2) f p3] X.env := by rfl) (hs2 : starEach [.Attribute (.Name n p2) f p3] X.env = (false, eval (.Attribute (.Name n p2) f p3) X.env) :: starEach [] X.env := by rfl) :
    PS X (.Return (some (.List [.Constant (.str t) j p1, .Attribute (.Name n p2) f p3] p4)) pos) (TErr X.K rs ie (errH isub [] t f) a cls d) := by
  refine ps_imp (ps_ret (pe_lst (pa_cons pe_str (pa_cons (pe_xfP hpin T hz hf (pe_var (i := ie) hie hv hd hcd) hb) pa_nil hs2) hs1))) fun D σ H ⟨c, fs, pp, ps, G, z, ec, hc, hσ, cf, xd, e, k⟩ => ?_
  unfold errH at e
  obtain ⟨x, ex, rfl⟩ := map_inv e
  rcases xd with ⟨rfl, _⟩ | ⟨dd, fvs, ed, hdd, np, hn', r, ne⟩
  · cases ex
  · obtain ⟨v, hv, rv⟩ := xd_look hn' r ex
    exact ⟨_, hσ, rfl, c, hc, ec, dd, fvs, v, ed, hdd, hv, two_size _ _, lst2_end (Q := D.rt) cf rv k⟩
theorem errs_one {isub : Str → Str → Bool} {t f : Str} {st : Stmt} (h : PS X st (TErr X.K rs ie (errH isub [] t f) a cls d)) : PSs X [st] (TErr X.K rs ie (errH isub [] t f) a cls d) := pss_one h
theorem errs_if {isub : Str → Str → Bool} {D t1 f1 t f : Str} {r : List (Str × Str × Str)} {st : Stmt} {rest : List Stmt} {q1 q2 q3 q4 pos : Pos} (hpin : (a, oe) ∈ X.pn) (C : ∀ c ∈ rs, ExcC X.K (TBL.C c)) (hk : ∀ c ∈ rs, PySem.W.kitOne X.K (.ref (TBL.C c)) (.ref (TBL.C D)) = some (isub c D))
    (hz : Zc cls d oe) (hf : ∃ vs, oe.data = .fields vs) (hgi : Gl X "isinstance") (hmi : X.mg "isinstance" = none) (hgD : Gl X D) (hmD : X.mg D = some (.ref (TBL.C D)))
    (hie : X.N[ie]? = some n) (hv : Vis X.env.scope n) (h1 : PS X st (TErr X.K rs ie (errH isub [] t1 f1) a cls d)) (h2 : PSs X rest (TErr X.K rs ie (errH isub r t f) a cls d))
    (hdD : (D == ("__debug__" : Str)) = false := by decide) (hd : (n == ("__debug__" : Str)) = false := by decide) (hcd : (n == ("__classdict__" : Str)) = false := by decide)
    (hs3 : starEach [.Name n q2, .Name D q3] X.env = (false, eval (.Name n q2) X.env) :: starEach [.Name D q3] X.env := by rfl) (hs4 : starEach [.Name D q3] X.env = (false, eval (.Name D q3) X.env) :: starEach [] X.env := by rfl) (hpl : (backTo q4 (starEach [.Name D q3] X.env)).any (·.1) = false := by rfl)
    (ht : ∀ whole, isTrue (.Call (.Name "isinstance" q1) [.Name n q2, .Name D q3] [] q4) X.env whole = (do let v ← whole; standAt (Expr.Call (.Name "isinstance" q1) [.Name n q2, .Name D q3] [] q4).pos; holding [v] (truthy v)) := by intro _; rfl) :
    PSs X (.If (.Call (.Name "isinstance" q1) [.Name n q2, .Name D q3] [] q4) [st] [] pos :: rest) (TErr X.K rs ie (errH isub ((D, t1, f1) :: r) t f) a cls d) := by
  refine pss_imp (pss_cons (ps_if (pt_val (pe_callB (call_isP hpin C hz hf) hgi hmi (by decide +kernel) (pa_cons (pe_var (i := ie) hie hv hd hcd) (pa_cons (pe_glob (v := .ref (TBL.C D)) hgD hmD rfl hdD) pa_nil hs4) hs3) (by decide) (by decide) hs3 hpl) ht) (pss_one h1) pss_nil) h2) fun Dd σ H ⟨c, fs, pp, ps, G, z, ec, hc, hσ, cf, xd, e, k⟩ => ?_
  unfold errH at e
  rcases xd with ⟨rfl, _⟩ | ⟨dd, fvs, ed, hdd, np, hn', rr, ne⟩
  · exfalso
    have nolook : ∀ (r : List (Str × Str × Str)) (t f : Str), errH isub r t f c [] = none := by
      intro r
      induction r with
      | nil => intro t f; rfl
      | cons y r ih =>
        intro t f
        obtain ⟨D1, t1, f1⟩ := y
        unfold errH
        split
        · rfl
        · exact ih t f
    split at e
    · cases e
    · rw [nolook] at e
      cases e
  · have xd' : XD X.K pp G H d fs := .inr ⟨dd, fvs, ed, hdd, np, hn', rr, ne⟩
    refine ⟨_, hσ, c, dd, fvs, .ref (TBL.C D), .ref (TBL.C D), isub c D, hc, ec, ed, hdd, rfl, fun u ru => ru, by rw [ec]; exact hk c hc, isub c D, rfl, ?_⟩
    cases hb : isub c D with
    | true =>
      rw [hb, if_pos rfl] at e
      exact iteT ⟨c, fs, pp, ps, G, z, ec, hc, hσ, cf, xd', e, k⟩
    | false =>
      rw [hb, if_neg Bool.false_ne_true] at e
      exact iteF ⟨c, fs, pp, ps, G, z, ec, hc, hσ, cf, xd', e, k⟩
end
def ErrOk (P : Program) (w : World) (K : PySem.W.Frag) (mg : Str → Option Value) (base : Heap) (f : Addr) (fd : FuncData) (n : Str) (rs : List Str) (h : HF) : Prop :=
  ∀ (A : Around) (outer : List Env) (s : Shared) (H : Hp) (p : Addr × Obj) (cls : Value) (d : Option Addr) (Q : VK) (c : Str) (fs : List (Str × PyData)) (pp : PP) (ps : Pt) (G : Hp) (z : PyData),
    L2H.RoomH 1 A → L2H.PinOk outer H s p → Env0 P w K mg base A outer s H → Zc cls d p.2 → (∃ vs, p.2.data = .fields vs) → cls = .ref (TBL.C c) → c ∈ rs → Cf pp ps G H → XD K pp G H d fs → h c fs = some z →
    (∀ v G' H', Go pp ps [] G H G' H' → Rv K pp G' v z → Q v H') → BindsTo s fd ⟨[.ref p.1], []⟩ ([n].zip [.ref p.1]) → codeAny (model P w) A (.call (.ref f) ⟨[.ref p.1], []⟩) (CR CX0 outer P w H s Q E0) s
theorem err_ok {P : Program} {w : World} {K : PySem.W.Frag} {mg : Str → Option Value} {base : Heap} {x : Str} {st : Stmt} {f : Addr} {fd : FuncData} {n : Str} {rs : List Str} {h : HF} (F : Fun K x x st f fd) (S : FnScope [n] [n] (defScope st))
    (hbody : ∀ (cdv : Value) (A : Around) (outer : List Env) (s : Shared) (H : Hp) (p : Addr × Obj) (cls : Value) (d : Option Addr), Zc cls d p.2 → (∃ vs, p.2.data = .fields vs) → PSs (L2H.cxH CX0 P w K mg base [n] x (defScope st) f cdv A outer s H E0 p) (defBody st) (TErr K rs 0 h p.1 cls d)) :
    ErrOk P w K mg base f fd n rs h := by
  intro A outer s H p cls d Q c fs pp ps G z hr hpin e0 hz hf ec hc cf xd e k hb
  obtain ⟨oc, od, kV, doc, pm, an, cdv, ct, osl, rfl, lk, hcg⟩ := F.ex
  have KX : K.In s.heap := e0.mod.kin.keeps fun b o e => (e0.bs b o e).1
  have lim : s.heap.NoLimit := e0.mod.nolimit.keeps fun b o e => (e0.bs b o e).1
  have hkind : ∀ y ∈ [n].zip [Value.ref p.1], (defScope st).names.lookup y.1 = some .local ∨ ((defScope st).names.lookup y.1 = some .cell ∧ ((cellsFrom (s.heap.objs.size + 1) (defScope st).names []).lookup y.1).isSome = true) := fun ⟨m, v⟩ hy => by
    rcases S.par m (List.of_mem_zip hy).1 with q | q
    · exact .inl q
    · exact .inr ⟨q, PySem.W.cellsFrom_some _ _ _ (.inl q)⟩
  refine codeAny_call_function hr.depth (KX _ _ lk) rfl S.co S.gen rfl (PySem.W.codeRec_of KX hcg) (hb _ _ _ _ ?_)
  refine wpAny_newFunctionEnv_cells S.kind hkind fun env he s1 xc => ?_
  subst he
  refine ⟨lim.keeps xc.toInCall.keep, codeAny_func ?_⟩
  have I : Inv (L2H.cxH CX0 P w K mg base [n] x (defScope st) f cdv A outer s H E0 p) [] (L2.start [n] [V.ref p.1]) H s1 := L2H.inv_startH S hpin e0 rfl (.cons rfl .nil) xc
  have hb2 := (hbody cdv A outer s H p cls d hz hf).run [] s1 (L2.start [n] [V.ref p.1]) H { nx := fun _ H' => Q .non H', rt := Q } I ⟨c, fs, pp, ps, G, z, ec, hc, rfl, cf, xd, e, k⟩
  refine wpAny_mono hb2 (fun fl s' hs => ?_) fun e s' hs => hs
  cases fl with
  | ret u =>
    obtain ⟨v, σ', H', J, rv, q⟩ := hs
    exact ⟨v, H', J.os, J.bare, J.base, J.hok, rv, q⟩
  | next =>
    obtain ⟨σ', H', J, q⟩ := hs
    exact ⟨V.non, H', J.os, J.bare, J.base, J.hok, rfl, q⟩
  | brk =>
    obtain ⟨_, _, _, q⟩ := hs
    exact False.elim q
  | cont =>
    obtain ⟨_, _, _, q⟩ := hs
    exact False.elim q
end DL
set_option Elab.async false
set_option linter.all false
set_option maxRecDepth 100000
set_option maxHeartbeats 2000000
namespace DL
open PySem PySem.Spec PyProof.Rows L2
variable [TBL]
theorem three_sizeV (u v w : Value) : [u, v, w].length ≤ sizeLine := by
  rw [sizeLine_eq]
  exact (by decide : 3 ≤ 16777216)
def wTup3 (K : PySem.W.Frag) (D : Ends) (c1 c2 c3 : Value) (i : Nat) (ts : Addr → Value → Option Addr → L2.TS) : WX := fun cls d σ H => PySem.W.exmAny K cls [c1, c2, c3] = some true ∧
  ∀ a, H a = none → ts a cls d { nx := fun σ' H' => D.nx (σ'.set i none) H', rt := D.rt, bk := fun σ' H' => D.bk (σ'.set i none) H', ct := fun σ' H' => D.ct (σ'.set i none) H' } (σ.set i (some (.ref a))) H
theorem flying_push {B : Heap} {l : List Env} {e : Addr} {Z : Obj → Prop} {h : Heap} {o : Obj} (f : HandSPX.FlyingZ B l e Z h) : HandSPX.FlyingZ B l e Z (h.push o) := by
  obtain ⟨f1, f2, f3, f4⟩ := f
  obtain ⟨oe, vs, T, oT, ts, he, hz, hd, h1, hnT, hTe, hT, hdT, h3⟩ := f4
  have k : ∀ b u, h.get? b = some u → (h.push o).get? b = some u := fun b u z => Heap.get?_push_of_some _ z
  exact ⟨fun b u z => k _ _ (f1 b u z), f2, f3.of_keeps fun b u z _ => ⟨u, k _ _ z, rfl⟩, oe, vs, T, oT, ts, k _ _ he, hz, hd, h1, hnT, hTe, k _ _ hT, hdT, h3⟩
section
variable {X : Cx} {body suite : List Stmt} {b₀ : Stmt} {x1 x2 x3 n : Str} {c1 c2 c3 : Addr} {i kk : Nat} {ts : Addr → Value → Option Addr → L2.TS} {p1 p2 p3 tpos pos pos' : Pos} {tb : WX → L2.TS}
theorem ps_try_tup3 (hs : X.stack = X.env :: X.outer) (hf : X.env.frame = some X.env.locals) (hN : X.N.Nodup) (hi : X.N[i]? = some n) (hln : X.env.kindOf n = some .local)
    (g1 : Gl X x1) (m1 : X.mg x1 = some (.ref c1)) (g2 : Gl X x2) (m2 : X.mg x2 = some (.ref c2)) (g3 : Gl X x3) (m3 : X.mg x3 = some (.ref c3))
    (hb : ∀ (W : WX) (pn : List (Addr × Obj)) (xe : Value → Shared → Prop), Takes (X.tr pn xe) W → PassesOwn (model X.prog X.w) X.A X.env xe → PSs (X.tr pn xe) body (tb W))
    (hsu : ∀ (a : Addr) (oe : Obj) (cls : Value) (d : Option Addr) (pn : List (Addr × Obj)), Zc cls d oe → (∃ vs, oe.data = .fields vs) → PSs (X.suite a ((a, oe) :: pn)) (b₀ :: suite) (ts a cls d))
    (d1 : (x1 == ("__debug__" : Str)) = false := by decide) (d2 : (x2 == ("__debug__" : Str)) = false := by decide) (d3 : (x3 == ("__debug__" : Str)) = false := by decide)
    (he1 : starEach [.Name x1 p1, .Name x2 p2, .Name x3 p3] X.env = (false, eval (.Name x1 p1) X.env) :: starEach [.Name x2 p2, .Name x3 p3] X.env := by rfl)
    (he2 : starEach [.Name x2 p2, .Name x3 p3] X.env = (false, eval (.Name x2 p2) X.env) :: starEach [.Name x3 p3] X.env := by rfl) (he3 : starEach [.Name x3 p3] X.env = (false, eval (.Name x3 p3) X.env) :: starEach [] X.env := by rfl) :
    PS X (.Try body [.ExceptHandler (some (.Tuple [.Name x1 p1, .Name x2 p2, .Name x3 p3] kk tpos)) (some n) (b₀ :: suite) pos'] [] [] pos) (fun D σ H => tb (wTup3 X.K D (.ref c1) (.ref c2) (.ref c3) i ts) D σ H) := by
  refine ⟨fun pins s σ H D J0 h => ?_⟩
  have okX := J0.ok
  have frm : X.A.frames = some (X.env :: X.outer) := by rw [okX.frames, hs]
  refine wpAny_Try_except ?_
  refine wpAny_mono ((hb (wTup3 X.K D (.ref c1) (.ref c2) (.ref c3) i ts) (X.pn ++ pins) (fun e s₁ => wpAny (model X.prog X.w) X.A (noteFrame e X.env) (fun _ s₂ => wpAny (model X.prog X.w) X.A (setFlight e none) (fun _ s₃ =>
    wpAny (model X.prog X.w) X.A (handleBy e X.env [.ExceptHandler (some (.Tuple [.Name x1 p1, .Name x2 p2, .Name x3 p3] kk tpos)) (some n) (b₀ :: suite) pos']) (SP X pins D) X.xe s₃) X.xe s₂) X.xe s₁) (fun u s' xx => ?_) PassesOwn.looking).run [] s σ H D (J0.toTry _) h) (fun f s1 hsp => ?_) (fun e s1 he => he)
  · obtain ⟨a, B, sI, pins', σ', H', cls, d, rfl, JT, nb, up, sky, na, os, ag, hx, hyes⟩ := xx
    have J : Inv X pins σ' H' sI := JT.ofTry okX
    have sky' : Sky B (X.env :: X.outer) a (Zc cls d) X.env.locals s'.heap := by rw [← hs]; exact sky
    show wpAny (model X.prog X.w) X.A (noteFrame (.ref a) X.env) _ _ _
    refine Sky.land Zc.steady frm hf sky' fun h3 fl3 up3 => ?_
    have J3 : Inv X pins σ' H' { s' with heap := h3 } := J.landed nb fl3.1 (up.trans up3) os ag
    obtain ⟨oe3, vs3, he3', hz3, hd3⟩ := fl3.there
    have nfr : a ∉ frs (X.env :: X.outer) := fun hm => by
      obtain ⟨_, o', e', hnf⟩ := fl3.2.2.1.mem hm
      rw [he3'] at e'
      cases e'
      exact hnf _ hd3
    have nL : a ≠ X.env.locals := fun z => nfr (List.mem_filterMap.mpr ⟨X.env, List.mem_cons_self, by rw [hf, z]⟩)
    have nF : a ∉ X.fs := fun hm => by
      obtain ⟨e, he, q⟩ := List.mem_filterMap.mp hm
      exact nfr (List.mem_filterMap.mpr ⟨e, List.mem_cons_of_mem _ he, q⟩)
    have S3 := J3.suite he3' hd3 na nL nF
    refine wpAny_handleBy_cons (codeAny_handlers_test ?_) (by intro q; cases q)
    have LT : PySem.W.Looks (model X.prog X.w) h3 (typeOf (.ref a)) cls := fun A Q E s k q => wpAny_typeOf_ref (k _ _ he3') (by rw [hz3.1]; exact q)
    refine wpAny_Tuple (wpAny_items_cons (ld_glob (X := X.suite a ((a, oe3) :: (X.pn ++ pins))) S3 g1 m1 ?_ d1) he1)
    refine wpAny_items_cons (ld_glob (X := X.suite a ((a, oe3) :: (X.pn ++ pins))) S3 g2 m2 ?_ d2) he2
    refine wpAny_items_cons (ld_glob (X := X.suite a ((a, oe3) :: (X.pn ++ pins))) S3 g3 m3 ?_ d3) he3
    refine wpAny_items_nil ⟨three_sizeV _ _ _, ?_⟩
    have kp : ∀ b o, h3.get? b = some o → (h3.push { cls := .type "tuple", data := .seq [Value.ref c1, .ref c2, .ref c3].toArray }).get? b = some o := fun b o z => Heap.get?_push_of_some _ z
    have LM := PySem.W.exm_tup3 (M := model X.prog X.w) (J3.kIn.keeps kp) (LT.keeps kp) (Heap.get?_push_size h3 rfl) hx
    refine LM.here ?_
    have flt : HandSPX.FlyingZ B (X.env :: X.outer) a (Zc cls d) (h3.push { cls := .type "tuple", data := .seq [Value.ref c1, .ref c2, .ref c3].toArray }) := flying_push fl3
    have upt : h3.UpToSlots (h3.push { cls := .type "tuple", data := .seq [Value.ref c1, .ref c2, .ref c3].toArray }) := fun b o z _ => ⟨o.slots, kp _ _ z⟩
    refine codeAny_handlers_suite_as ?_
    refine HandSPX.lands_againZ flt fun h4 fl4 up4 => ?_
    have J4 : Inv X pins σ' H' { s' with heap := h4 } := J.landed nb fl4.1 (((up.trans up3).trans upt).trans up4) os ag
    obtain ⟨oe4, vs4, he4, hz4, hd4⟩ := fl4.there
    have S4 := J4.suite he4 hd4 na nL nF
    refine store_ok (X := X.suite a ((a, oe4) :: (X.pn ++ pins))) (v := .ref a) S4 hN hi (.inl hln) rfl (fun s5 S5 => ?_) (.inr hln)
    refine wpAny_mono ((hsu a oe4 cls d (X.pn ++ pins) hz4 ⟨_, hd4⟩).run [] s5 _ H' _ S5 (hyes a na)) (fun f s6 hsp => ?_) (fun _ _ z => False.elim z)
    have endS : ∀ {σ6 : L2.St} {H6 : Hp} {Q : Shared → Prop}, Inv (X.suite a ((a, oe4) :: (X.pn ++ pins))) [] σ6 H6 s6 → (∀ s7, Inv X pins (σ6.set i none) H6 s7 → Q s7) →
        wpAny (model X.prog X.w) X.A (do bindName X.env n .none; unbindBehindTheSuite X.env n pos') (fun _ s7 => Q s7) X.xe s6 := fun {σ6 H6 Q} S6 hq => gone_ok (S6.unsuite okX) hN hi hln hq
    cases f with
    | next =>
      obtain ⟨σ6, H6, S6, q6⟩ := hsp
      exact endS S6 fun s7 J7 => ⟨_, _, J7, q6⟩
    | brk =>
      obtain ⟨σ6, H6, S6, q6⟩ := hsp
      exact endS S6 fun s7 J7 => ⟨_, _, J7, q6⟩
    | cont =>
      obtain ⟨σ6, H6, S6, q6⟩ := hsp
      exact endS S6 fun s7 J7 => ⟨_, _, J7, q6⟩
    | ret u =>
      obtain ⟨v6, σ6, H6, S6, r6, q6⟩ := hsp
      exact endS S6 fun s7 J7 => ⟨_, _, _, J7, r6, q6⟩
  · cases f with
    | next =>
      obtain ⟨σ1, H1, J1, q⟩ := hsp
      exact wpAny_execs_nil ⟨σ1, H1, J1.ofTry okX, q⟩
    | brk =>
      obtain ⟨σ1, H1, J1, q⟩ := hsp
      exact ⟨σ1, H1, J1.ofTry okX, q⟩
    | cont =>
      obtain ⟨σ1, H1, J1, q⟩ := hsp
      exact ⟨σ1, H1, J1.ofTry okX, q⟩
    | ret u =>
      obtain ⟨v, σ1, H1, J1, r, q⟩ := hsp
      exact ⟨v, σ1, H1, J1.ofTry okX, r, q⟩
end
section
variable {X : Cx} {a : Addr} {oe : Obj} {cls : Value} {d : Option Addr} {rs : List Str} {ie : Nat} {n g : Str}
theorem pe_err {f : Addr} {fd : FuncData} {m : Str} {h : HF} {pn : List (Addr × Obj)} {p1 p2 pos : Pos} (F : ErrOk X.prog X.w X.K X.mg X.base f fd m rs h) (hu : X.A.depth + 8 < recursionLimit) (hv : X.A.units + 216 < cLine) (hg : Gl X g) (hm : X.mg g = some (.ref f)) (hk : PySem.W.keepIn X.K (.ref f) = true)
    (hb : Binds X.K fd [m] []) (hz : Zc cls d oe) (hf : ∃ vs, oe.data = .fields vs) (hie : X.N[ie]? = some n) (hln : X.env.scope.names.lookup n = some .local)
    (hdb : (g == ("__debug__" : Str)) = false := by decide) (hd : (n == ("__debug__" : Str)) = false := by decide) (hcd : (n == ("__classdict__" : Str)) = false := by decide)
    (hs : starEach [.Name n p2] X.env = (false, eval (.Name n p2) X.env) :: starEach [] X.env := by rfl) (hpl : (backTo pos (starEach [] X.env)).any (·.1) = false := by rfl) :
    PE (X.suite a ((a, oe) :: pn)) (.Call (.Name g p1) [.Name n p2] [] pos) (fun σ H Q => ∃ (c : Str) (fs : List (Str × PyData)) (pp : PP) (ps : Pt) (G : Hp) (z : PyData), cls = .ref (TBL.C c) ∧ c ∈ rs ∧ σ[ie]? = some (some (.ref a)) ∧ Cf pp ps G H ∧ XD X.K pp G H d fs ∧ h c fs = some z ∧
      ∀ v G' H', Go pp ps [] G H G' H' → Rv X.K pp G' v z → Q v H') := by
  refine ⟨fun pins s σ H Q J hh => ?_⟩
  obtain ⟨c, fs, pp, ps, G, z, ec, hc, hσ, cf, xd, e, k⟩ := hh
  refine wpAny_Call_Name_kw (ld_glob (X := X.suite a ((a, oe) :: pn)) J hg hm ?_ hdb)
  refine PySem.W.callWith_K (h₀ := X.base) J.ok.mod.kin hk (thn ((pa_cons (X := X.suite a ((a, oe) :: pn)) (pe_var (X := X.suite a ((a, oe) :: pn)) (i := ie) hie (.inl hln) hd hcd) pa_nil hs).run pos pins s σ H (fun vs H1 => vs = [.ref a] ∧ H1 = H) J ⟨_, hσ, rfl, rfl⟩) fun us s1 ⟨vs, H1, J1, r, ev, eH⟩ => ⟨J1.kIn, ?_⟩) hs hpl
  subst ev eH
  cases r with
  | cons r1 r2 =>
  cases r2
  cases r1
  have P1 := J1.pin (a, oe) (List.mem_append_left _ List.mem_cons_self)
  have hpin : L2H.PinOk (X.suite a ((a, oe) :: pn)).stack H1 s1 (a, oe) := ⟨P1.1, P1.2.1, fun hm => (List.mem_cons.mp (J1.stkSub a hm)).elim P1.2.2.1 P1.2.2.2.1, P1.2.2.2.2⟩
  have b := hb s1 [.ref a] J1.kIn rfl
  refine wpAny_call (codeAny_mono (F _ _ s1 H1 (a, oe) cls d Q c fs pp ps G z ⟨hu, hv⟩ hpin J1.env0 hz hf ec hc cf xd e k b) fun r s' hq => ?_)
  cases r with
  | error e => exact (show False from hq).elim
  | ok fl =>
    cases fl with
    | ret u => exact J1.after hq
    | next => exact False.elim hq
    | brk => exact False.elim hq
    | cont => exact False.elim hq
def hErr (rs : List Str) (h : HF) : HF := fun c fs => if rs.contains c then (h c fs).bind reprD else none
theorem su_err {f : Addr} {fd : FuncData} {m : Str} {h : HF} {p1 p2 p3 p4 p5 pos : Pos} (F : ErrOk X.prog X.w X.K X.mg X.base f fd m rs h) (hgd : X.A.guards = some []) (hu : X.A.depth + 8 < recursionLimit) (hun : X.A.units + 216 < cLine) (hsys : ∃ o, X.base.get? sysModules = some o) (hgr : Gl X "repr") (hmr : X.mg "repr" = none)
    (hg : Gl X g) (hm : X.mg g = some (.ref f)) (hk : PySem.W.keepIn X.K (.ref f) = true) (hb : Binds X.K fd [m] []) (hie : X.N[ie]? = some n) (hln : X.env.scope.names.lookup n = some .local)
    (hdb : (g == ("__debug__" : Str)) = false := by decide) (hd : (n == ("__debug__" : Str)) = false := by decide) (hcd : (n == ("__classdict__" : Str)) = false := by decide)
    (hs : starEach [.Name n p2] X.env = (false, eval (.Name n p2) X.env) :: starEach [] X.env := by rfl) (hpl : (backTo p3 (starEach [] X.env)).any (·.1) = false := by rfl)
    (hs2 : starEach [.Call (.Name g p1) [.Name n p2] [] p3] X.env = (false, eval (.Call (.Name g p1) [.Name n p2] [] p3) X.env) :: starEach [] X.env := by rfl) (hpl2 : (backTo p5 (starEach [] X.env)).any (·.1) = false := by rfl) :
    SuOkR X ie (hErr rs h) [.Return (some (.Call (.Name "repr" p4) [.Call (.Name g p1) [.Name n p2] [] p3] [] p5)) pos] := fun a oe cls d pn hz hf => by
  refine pss_imp (pss_one (ps_ret (pe_callB (cd_reprS (X := X.suite a ((a, oe) :: pn)) hgd (show X.A.units + 200 < cLine by omega) hsys) (show Gl (X.suite a ((a, oe) :: pn)) "repr" from hgr) hmr (by decide +kernel) (pa_cons (pe_err (X := X) (a := a) (cls := cls) (d := d) (pn := pn) F hu hun hg hm hk hb hz hf hie hln hdb hd hcd hs hpl) pa_nil hs2) (by decide) (by decide) hs2 hpl2))) fun D σ H ⟨c, fs, pp, ps, G, z, ec, hσ, cf, xd, e, k⟩ => ?_
  unfold hErr at e
  split at e
  · next hc =>
    obtain ⟨y, ey, e⟩ := Option.bind_eq_some_iff.mp e
    refine ⟨c, fs, pp, ps, G, y, ec, by simpa using hc, hσ, cf, xd, ey, fun v G' H' g' r' => ?_⟩
    exact ⟨pp, ps, G', [y], z, g'.cf, .cons r' .nil, e, fun v2 G2 H2 g2 r2 => k _ _ _ (g'.trans g2) r2⟩
  · cases e
end
def toldC (tag : Str) (h : HF) : (Pt → Option (PyData × Pt)) → Pt → Option (PyData × Pt) := fun th ps => bindP (th ps) fun d p => match excOf d with
  | none => (reprD (.list [.str tag, d])).map fun z => (z, p)
  | some (c, fs) => (h c fs).map fun z => (z, p)
theorem told_C {P : Program} {w : World} {K : PySem.W.Frag} {mg : Str → Option Value} {base : Heap} {x : Str} {st : Stmt} {Ng : List Str} {a n tag x1 x2 x3 : Str} {c1 c2 c3 : Addr} {ie kk : Nat} {k j : Nat} {rs : List Str} {h : HF} {b₀ : Stmt} {suite : List Stmt} {p0 p1 p2 p3 p4 p5 p6 p7 p8 q1 q2 q3 q4 : Pos}
    (hnd : Ng.Nodup) (hie : Ng[ie]? = some n) (hn : (defScope st).names.lookup n = some .local) (hsys : ∃ o, base.get? sysModules = some o) (hmr : mg "repr" = none)
    (hgr : ∀ (g : Addr) (cdg : Value) (A : Around) (outer : List Env) (s : Shared) (H : Hp), Gl (cxT P w K mg base Ng x st g cdg A outer s H) "repr")
    (hg3 : ∀ (g : Addr) (cdg : Value) (A : Around) (outer : List Env) (s : Shared) (H : Hp), Gl (cxT P w K mg base Ng x st g cdg A outer s H) x1 ∧ Gl (cxT P w K mg base Ng x st g cdg A outer s H) x2 ∧ Gl (cxT P w K mg base Ng x st g cdg A outer s H) x3)
    (m1 : mg x1 = some (.ref c1)) (m2 : mg x2 = some (.ref c2)) (m3 : mg x3 = some (.ref c3)) (dd : (x1 == ("__debug__" : Str)) = false ∧ (x2 == ("__debug__" : Str)) = false ∧ (x3 == ("__debug__" : Str)) = false)
    (hx : ∀ c ∈ rs, PySem.W.exmAny K (.ref (TBL.C c)) [.ref c1, .ref c2, .ref c3] = some true)
    (hr0 : ∀ c fs z, h c fs = some z → c ∈ rs)
    (hh : ∀ (g : Addr) (cdg : Value) (A : Around) (outer : List Env) (s : Shared) (H : Hp), Rm (k + 1) (A.deeper (PyProof.Rows.envOfC x (defScope st) s.heap.objs.size g cdg)) → SuOkR (cxT P w K mg base Ng x st g cdg A outer s H) ie h (b₀ :: suite)) :
    ToldOk P w K mg base x st Ng a k [.Try [.Return (some (.Call (.Name "repr" p0) [.List [.Constant (.str tag) j p1, .Call (.Name a p2) [] [] p3] p4] [] p5)) p6] [.ExceptHandler (some (.Tuple [.Name x1 q1, .Name x2 q2, .Name x3 q3] kk q4)) (some n) (b₀ :: suite) p8] [] [] p7] (toldC tag h) := by
  intro g cdg A outer s H Q f pp ps G th d ps' Kp hr act c kp e k0
  have hlt : ie < (start Ng [V.ref f]).length := by
    have h1 : ie < Ng.length := (List.getElem?_eq_some_iff.mp hie).1
    unfold L2.start
    simp only [List.length_append, List.length_map, List.length_replicate, List.length_cons, List.length_nil]
    omega
  have hun : (A.deeper (PyProof.Rows.envOfC x (defScope st) s.heap.objs.size g cdg)).units + 200 < cLine := by
    have := hr.un
    omega
  obtain ⟨gl1, gl2, gl3⟩ := hg3 g cdg A outer s H
  refine ⟨_, pss_one (ps_try_tup3 (X := cxT P w K mg base Ng x st g cdg A outer s H) (i := ie) (n := n) (tb := fun W => tRet (tCB (rDL K (one reprD)) (tCons (L2.tLst (tCons (tC (.str tag)) (tCons (ThunkR K pp f Kp th W) tNil))) tNil))) rfl rfl hnd hie hn gl1 m1 gl2 m2 gl3 m3
      (fun W pn xe tk _ => pss_one (ps_ret (pe_callB (cd_reprS (X := (cxT P w K mg base Ng x st g cdg A outer s H).tr pn xe) hr.gd hun hsys) (show Gl ((cxT P w K mg base Ng x st g cdg A outer s H).tr pn xe) "repr" from hgr g cdg A outer s H) hmr (by decide +kernel) (pa_cons (pe_lst (pa_cons pe_str (pa_cons (act W pn xe p2 p3 tk) pa_nil (by rfl)) (by rfl))) pa_nil (by rfl)) (by decide) (by decide) (by rfl) (by rfl))))
      (hh g cdg A outer s H hr) dd.1 dd.2.1 dd.2.2), ?_⟩
  unfold toldC at e
  obtain ⟨d1, q, e1, e⟩ := bindP_inv e
  refine ⟨rfl, ps, G, d1, q, c, kp, e1, fun v G' H' g' r' => ?_, fun c1 fs ex od G' H' g' x' => ?_⟩
  · rw [rv_noexc r'] at e
    obtain ⟨z, e2, e⟩ := map_inv e
    cases e
    exact ⟨two_size _ _, rep2_end (Q := Q) g'.cf r' e2 fun v G2 H2 g2 r2 => k0 _ _ _ (g'.trans g2) r2⟩
  · rw [ex] at e
    simp only at e
    obtain ⟨z, e2, e⟩ := map_inv e
    cases e
    refine ⟨hx c1 (hr0 _ _ _ e2), fun a ha => ⟨c1, fs, pp, ps', G', _, rfl, ?_, g'.cf, x', e2, fun v G2 H2 g2 r2 => k0 _ _ _ (g'.trans g2) r2⟩⟩
    rw [List.getElem?_set, if_pos rfl, if_pos hlt]
def sTryR (tag : Str) (g : EG) (sub : Str → Str → Bool) (rs : List Str) (hl : List (Str × HF)) : SG := fun S ps => bindP (g S ps) fun d p => match excOf d with
  | none => (reprD (.list [.str tag, d])).map fun z => (.rt z, p)
  | some (c, fs) => if rs.contains c then (firstH sub hl c fs).map fun z => (.rt z, p) else none
end DL
namespace DL
open PySem
theorem hErr_mem {rs : List Str} {h : HF} {c : Str} {fs : List (Str × PyData)} {z : PyData} (e : hErr rs h c fs = some z) : c ∈ rs := by
  unfold hErr at e
  split at e
  · next hc => simpa using hc
  · cases e
end DL
set_option Elab.async false
set_option linter.all false
set_option maxRecDepth 100000
set_option maxHeartbeats 2000000
namespace DL
open PySem PySem.Spec PyProof.Rows L2
variable [TBL]
theorem ite_invP {α : Type} {p : Prop} [Decidable p] {x z : α} (h : (if p then some x else none) = some z) : p ∧ x = z := by
  split at h
  · next hp =>
    cases h
    exact ⟨hp, rfl⟩
  · cases h
section
variable {X : Cx}
theorem pds_tryR {e : Expr} {g : EG} {tag n : Str} {sub : Str → Str → Bool} {rs : List Str} {hl : List (Str × HF)} {h₀ : ExceptHandler} {hds : List ExceptHandler} {k ie j : Nat} {p0 p1 p4 p5 p6 p7 : Pos} (hs : X.stack = X.env :: X.outer) (hf : X.env.frame = some X.env.locals) (hN : X.N.Nodup) (hie : X.N[ie]? = some n) (hn : X.env.kindOf n = some .local)
    (hr : Rm k X.A) (hsys : ∃ o, X.base.get? sysModules = some o) (hgr : Gl X "repr") (hmr : X.mg "repr" = none) (hx : ∀ c ∈ rs, ∀ q ∈ hl, PySem.W.exmOne X.K (.ref (TBL.C c)) (.ref (TBL.C q.1)) = some (sub c q.1))
    (he : ∀ (W : WX) (pn : List (Addr × Obj)) (xe : Value → Shared → Prop), Takes (X.tr pn xe) W → PDX (X.tr pn xe) W e g) (hh : HdsR X ie n (h₀ :: hds) hl)
    (hs1 : starEach [.Constant (.str tag) j p1, e] X.env = (false, eval (.Constant (.str tag) j p1) X.env) :: starEach [e] X.env := by rfl) (hs2 : starEach [e] X.env = (false, eval e X.env) :: starEach [] X.env := by rfl)
    (hs3 : starEach [.List [.Constant (.str tag) j p1, e] p4] X.env = (false, eval (.List [.Constant (.str tag) j p1, e] p4) X.env) :: starEach [] X.env := by rfl) (hpl : (backTo p5 (starEach [] X.env)).any (·.1) = false := by rfl) :
    PDS X (.Try [.Return (some (.Call (.Name "repr" p0) [.List [.Constant (.str tag) j p1, e] p4] [] p5)) p6] (h₀ :: hds) [] [] p7) (sTryR tag g sub rs hl) := by
  have hun : X.A.units + 200 < cLine := by
    have := hr.un
    omega
  refine ⟨fun pins s σ H D I ⟨pp, ps, G, S, r, ps', cf, sl, e, kk⟩ => (ps_try_manyA (X := X) (Wout := fun _ _ _ _ => False) (tb := fun W => tRet (tCB (rDL X.K (one reprD)) (tCons (L2.tLst (tCons (tC (.str tag)) (tCons (TDX X.K W g) tNil))) tNil))) hs hf hN takes0
      (fun W pn xe tk _ => pss_one (ps_ret (pe_callB (cd_reprS (X := X.tr pn xe) hr.gd hun hsys) (show Gl (X.tr pn xe) "repr" from hgr) hmr (by decide +kernel) (pa_cons (pe_lst (pa_cons pe_str (pa_cons (he W pn xe tk) pa_nil hs2) hs1)) pa_nil hs3) (by decide) (by decide) hs3 hpl)))
      (HdsR.toA (X := X) hie hn hh)).run pins s σ H D I ?_⟩
  have hlt : ie < σ.length := by
    rw [I.len]
    exact (List.getElem?_eq_some_iff.mp hie).1
  unfold sTryR at e
  obtain ⟨d1, q, e1, e⟩ := bindP_inv e
  refine ⟨pp, ps, G, S, d1, q, cf, sl, e1, fun v G' H' g' r' => ?_, fun c1 fs ex od G' H' g' x' => ?_⟩
  · rw [rv_noexc r'] at e
    obtain ⟨z, e2, e⟩ := map_inv e
    cases e
    exact ⟨two_size _ _, rep2_end (Q := D.rt) g'.cf r' e2 fun v G2 H2 g2 r2 => kk _ _ _ (g'.trans g2).toR r2⟩
  · rw [ex] at e
    simp only at e
    split at e
    · next hc =>
      obtain ⟨z, e2, e⟩ := map_inv e
      cases e
      exact first_wishR hlt g'.cf x' (fun v G2 H2 g2 r2 => kk _ _ _ (g'.trans g2).toR r2) hl (fun q hq => hx c1 (by simpa using hc) q hq) e2
    · cases e
def upperD : PyData → Option PyData
  | .str a => if a.length ≤ 1000 then some (.str (Txt.upper a)) else none
  | _ => none
theorem pd_upper {o : Expr} {g : EG} {apos pos : Pos} (h : PD X o g) (hbase : attributeBase o "upper" X.env (eval o X.env) = eval o X.env := by rfl) (hline : (apos.endLine == pos.line) = true := by rfl) : PD X (.Call (.Attribute o "upper" apos) [] [] pos) (eUn upperD g) :=
  pe_imp (pe_upper h hbase hline) fun σ H Q ⟨pp, ps, G, S, d, ps', c, s, e, k⟩ => by
    obtain ⟨x, p1, e1, e⟩ := bindP_inv e
    obtain ⟨d', e2, e⟩ := map_inv e
    cases e
    unfold upperD at e2
    split at e2
    · next a =>
      obtain ⟨hl, rfl⟩ := ite_invP e2
      refine ⟨pp, ps, G, S, _, _, c, s, e1, fun v G1 H1 g1 r1 => ?_⟩
      have ev := rv_str r1
      exact ⟨⟨a, ev⟩, a, ev, rfl, by omega, k _ _ _ g1 (.str _)⟩
    · cases e2
def replD (y z : Str) : PyData → Option PyData
  | .str a => if a.length + (a.length + 1) * z.length ≤ 16777216 then some (.str (Txt.replace a y z)) else none
  | _ => none
theorem pet_imp {e : Expr} {t t' : TE} (h : PET X e t) (hi : ∀ σ H Q, t' σ H Q → t σ H Q) : PET X e t' := fun pins s σ H Q h0 J q => h pins s σ H Q h0 J (hi σ H Q q)
theorem pdt_repl {o : Expr} {g : EG} {y z : Str} {j k : Nat} {c0 c1 apos pos : Pos} (h : PD X o g) (hyz : (y == z) = false := by decide)
    (hst : starEach [.Constant (.str y) j c0, .Constant (.str z) k c1] X.env = [(false, eval (.Constant (.str y) j c0) X.env), (false, eval (.Constant (.str z) k c1) X.env)] := by rfl)
    (hbase : attributeBase o "replace" X.env (eval o X.env) = eval o X.env := by rfl) (hline : (apos.endLine == pos.line) = true := by rfl) :
    PET X (.Call (.Attribute o "replace" apos) [.Constant (.str y) j c0, .Constant (.str z) k c1] [] pos) (TD X.K (eUn (replD y z) g)) :=
  pet_imp (CwR.pet_replC h hyz hst hbase hline) fun σ H Q ⟨pp, ps, G, S, d, ps', c, s, e, k⟩ => by
    obtain ⟨x, p1, e1, e⟩ := bindP_inv e
    obtain ⟨d', e2, e⟩ := map_inv e
    cases e
    unfold replD at e2
    split at e2
    · next a =>
      obtain ⟨hl, rfl⟩ := ite_invP e2
      exact ⟨pp, ps, G, S, _, _, c, s, e1, fun v G1 H1 g1 r1 => ⟨a, rv_str r1, hl, k _ _ _ g1 (.str _)⟩⟩
    · cases e2
def PE1 (X : Cx) (e : Expr) (t : TE) : Prop := ∀ (pins : List (Addr × Obj)) (s : Shared) (σ : L2.St) (H : Hp) (Q : VK), Inv X pins σ H s → t σ H Q → wpAny (model X.prog X.w) X.A (eval e X.env) (fun v s1 => 1 ≤ s1.toks ∧ EP X pins σ Q v s1) X.xe s
theorem pe1_str {x : Str} {j : Nat} {pos : Pos} : PE1 X (.Constant (.str x) j pos) (tC (.str x)) := fun _ s _ H _ J h => Calls.Constant_str ⟨by show 1 ≤ s.toks + 1; omega, .str x, H, J.tok _, ⟨_, rfl⟩, h⟩
theorem pe1_imp {e : Expr} {t t' : TE} (h : PE1 X e t) (hi : ∀ σ H Q, t' σ H Q → t σ H Q) : PE1 X e t' := fun pins s σ H Q J q => h pins s σ H Q J (hi σ H Q q)
theorem pe1_opL {a b : Expr} {op : Operator} {r : R2} {ta tb : TE} {pos : Pos} (ho : OpR X (binaryOp op) r) (ha : PE1 X a ta) (hb : PE X b tb) : PE1 X (.BinOp a op b pos) (tOp r ta tb) := fun pins s σ H Q J h => by
  refine wpAny_BinOp (thn (ha pins s σ H _ J h) fun v s1 ⟨k1, x, H1, J1, r1, q1⟩ => ?_)
  refine wpAny_mono (PySem.wpAny_toks (hb.run pins s1 σ H1 _ J1 q1)) (fun u s2 ⟨k2, y, H2, J2, r2, q2⟩ => ?_) fun _ _ z => z.2
  exact wpAny_mono (PySem.wpAny_toks (ho pins s2 σ H2 x y v u Q J2 r1 r2 q2)) (fun w s3 ⟨k3, z⟩ => ⟨Nat.le_trans k1 (Nat.le_trans k2 k3), z⟩) fun _ _ z => z.2
theorem pe1_opR {a b : Expr} {op : Operator} {r : R2} {ta tb : TE} {pos : Pos} (ho : OpR X (binaryOp op) r) (ha : PE X a ta) (hb : PE1 X b tb) : PE1 X (.BinOp a op b pos) (tOp r ta tb) := fun pins s σ H Q J h => by
  refine wpAny_BinOp (thn (ha.run pins s σ H _ J h) fun v s1 ⟨x, H1, J1, r1, q1⟩ => ?_)
  refine thn (hb pins s1 σ H1 _ J1 q1) fun u s2 ⟨k2, y, H2, J2, r2, q2⟩ => ?_
  exact wpAny_mono (PySem.wpAny_toks (ho pins s2 σ H2 x y v u Q J2 r1 r2 q2)) (fun w s3 ⟨k3, z⟩ => ⟨Nat.le_trans k2 k3, z⟩) fun _ _ z => z.2
theorem pa_consT {e : Expr} {es : List Expr} {te : TE} {t : TA} (ha : PE1 X e te) (hr : PAT X es t) (hs : starEach (e :: es) X.env = (false, eval e X.env) :: starEach es X.env := by rfl) : PA X (e :: es) (tCons te t) := by
  refine ⟨fun pos pins s σ H Q J h => ?_⟩
  rw [hs]
  refine Calls.spliced_cons (thn (ha pins s σ H _ J h) fun u s1 ⟨k1, x, H1, J1, r1, q1⟩ => ?_)
  exact thn (hr pos pins s1 σ H1 _ k1 J1 q1) fun us s2 ⟨xs, H2, J2, r2, q2⟩ => ⟨x :: xs, H2, J2, .cons r1 r2, q2⟩
theorem pat_cons {e : Expr} {es : List Expr} {te : TE} {t : TA} (ha : PET X e te) (hr : PAT X es t) (hs : starEach (e :: es) X.env = (false, eval e X.env) :: starEach es X.env := by rfl) : PAT X (e :: es) (tCons te t) := fun pos pins s σ H Q h0 J h => by
  rw [hs]
  refine Calls.spliced_cons (wpAny_mono (PySem.wpAny_toks (ha pins s σ H _ h0 J h)) (fun u s1 ⟨k1, x, H1, J1, r1, q1⟩ => ?_) fun _ _ z => z.2)
  exact thn (hr pos pins s1 σ H1 _ (Nat.le_trans h0 k1) J1 q1) fun us s2 ⟨xs, H2, J2, r2, q2⟩ => ⟨x :: xs, H2, J2, .cons r1 r2, q2⟩
theorem pat_imp {es : List Expr} {t t' : TA} (h : PAT X es t) (hi : ∀ σ H Q, t' σ H Q → t σ H Q) : PAT X es t' := fun pos pins s σ H Q h0 J q => h pos pins s σ H Q h0 J (hi σ H Q q)
abbrev PD1 (X : Cx) (e : Expr) (g : EG) : Prop := PE1 X e (TD X.K g)
abbrev PDT1 (X : Cx) (e : Expr) (g : EG) : Prop := PET X e (TD X.K g)
abbrev PDAT (X : Cx) (es : List Expr) (g : AG) : Prop := PAT X es (TDA X.K g)
theorem tCons_D {K : PySem.W.Frag} {g : EG} {gs : AG} (σ : L2.St) (H : Hp) (Q : List V → Hp → Prop) : TDA K (aCons g gs) σ H Q → tCons (TD K g) (TDA K gs) σ H Q := fun ⟨pp, ps, G, S, d, ps', c, s, e, k⟩ => by
  obtain ⟨d1, p1, e1, e⟩ := bindP_inv e
  obtain ⟨d2, p2, e2, e⟩ := bindP_inv e
  cases e
  exact ⟨pp, ps, G, S, d1, p1, c, s, e1, fun v G1 H1 g1 r1 => ⟨pp, p1, G1, S, d2, _, g1.cf, s.go g1, e2, fun vs G2 H2 g2 r2 => k _ G2 H2 (g1.trans g2) (.cons (Rv.mono g2.gg _ _ r1) r2)⟩⟩
theorem pda_consT {e : Expr} {es : List Expr} {g : EG} {gs : AG} (h : PD1 X e g) (hs : PDAT X es gs) (hst : starEach (e :: es) X.env = (false, eval e X.env) :: starEach es X.env := by rfl) : PDA X (e :: es) (aCons g gs) := pa_imp (pa_consT h hs hst) tCons_D
theorem pdat_cons {e : Expr} {es : List Expr} {g : EG} {gs : AG} (h : PDT1 X e g) (hs : PDAT X es gs) (hst : starEach (e :: es) X.env = (false, eval e X.env) :: starEach es X.env := by rfl) : PDAT X (e :: es) (aCons g gs) := pat_imp (pat_cons h hs hst) tCons_D
theorem pdat_of {es : List Expr} {gs : AG} (h : PDA X es gs) : PDAT X es gs := fun pos pins s σ H Q _ J q => h.run pos pins s σ H Q J q
theorem pdt1_of {e : Expr} {g : EG} (h : PD X e g) : PDT1 X e g := fun pins s σ H Q _ J q => h.run pins s σ H Q J q
theorem pd1_str {x : Str} {j : Nat} {pos : Pos} : PD1 X (.Constant (.str x) j pos) (eC (.str x)) := pe1_imp pe1_str fun σ H Q ⟨pp, ps, G, S, d, ps', c, s, e, k⟩ => by
  cases e
  exact k _ _ _ (Go.refl c) (.str _)
theorem pd1_opR {a b : Expr} {op : Operator} {ga gb : EG} {pos : Pos} {o : PyData → PyData → Option PyData} (ho : OpD X (binaryOp op) o) (ha : PD X a ga) (hb : PD1 X b gb) : PD1 X (.BinOp a op b pos) (eOp o ga gb) := pe1_imp (pe1_opR ho ha hb) tOp_D
theorem pd1_opL {a b : Expr} {op : Operator} {ga gb : EG} {pos : Pos} {o : PyData → PyData → Option PyData} (ho : OpD X (binaryOp op) o) (ha : PD1 X a ga) (hb : PD X b gb) : PD1 X (.BinOp a op b pos) (eOp o ga gb) := pe1_imp (pe1_opL ho ha hb) tOp_D
end
theorem lamS_comp {sc scope : Scope} {env : Env} (L : LamX.LamS sc scope) : LamX.LamS (relabel sc env) scope := by
  refine ⟨L.kind, L.co, L.gen, L.own, fun y hy e => ?_⟩
  have key : ∀ (names : List (Str × NameKind)), (names.lookup y.1 = some .cell ∨ names.lookup y.1 = some .free) →
      ((names.map fun p => if (p.2 == NameKind.free && env.scope.kind == .function && env.kindOf p.1 == some .cell) = true then (p.1, NameKind.cell) else (p.1, p.2)).lookup y.1 = some .cell ∨
       (names.map fun p => if (p.2 == NameKind.free && env.scope.kind == .function && env.kindOf p.1 == some .cell) = true then (p.1, NameKind.cell) else (p.1, p.2)).lookup y.1 = some .free) := by
    intro names
    induction names with
    | nil => intro h; rcases h with h | h <;> cases h
    | cons p r ih =>
      intro h
      obtain ⟨m, kd⟩ := p
      rw [List.map_cons]
      cases hb : y.1 == m with
      | true =>
        rw [List.lookup_cons, hb] at h
        split
        · exact .inl (by rw [List.lookup_cons, hb])
        · rcases h with h | h
          · cases h
            exact .inl (by rw [List.lookup_cons, hb])
          · cases h
            exact .inr (by rw [List.lookup_cons, hb])
      | false =>
        rw [List.lookup_cons, hb] at h
        have i := ih h
        split
        · rw [List.lookup_cons, hb]
          exact i
        · rw [List.lookup_cons, hb]
          exact i
  exact key _ (L.free y hy e)
end DL
set_option Elab.async false
set_option linter.all false
set_option maxRecDepth 100000
set_option maxHeartbeats 2000000
namespace DL
open PySem PySem.Spec PyProof.Rows L2
section
variable {prog : Program} {w : World} {A : Around} {E : Value → Shared → Prop} {s : Shared}
theorem sliceApplied_back {sl : Addr} {vl vu vs : Value} {n : Nat} {Q : Int × Int × Nat → Shared → Prop} (hs : s.heap.IsSliceOf sl vl vu vs) (pl : IsPart vl none) (pu : IsPart vu none) (pb : IsPart vs (some (-1)))
    (h : Q ((n : Int) - 1, -1, n) s) : wpAny (model prog w) A (Builtin.Slice.sliceApplied (.ref sl) (pure (n : Int))) Q E s := by
  obtain ⟨o, ho, _, hd⟩ := id hs
  unfold Builtin.Slice.sliceApplied Builtin.Slice.sliceFields
  refine wpAny_bind (wpAny_bind (wpAny_field ho hd (x := vl) rfl (wpAny_bind (wpAny_field ho hd (x := vu) rfl (wpAny_bind (wpAny_field ho hd (x := vs) rfl (wpAny_pure ?_)))))))
  refine wpAny_bind (HT.slicePart_ pb ?_)
  show wpAny _ _ (if ((-1 : Int) == 0) = true then _ else _) _ _ s
  rw [if_neg (by decide)]
  refine wpAny_bind (HT.slicePart_ pl (wpAny_bind (HT.slicePart_ pu (wpAny_bind (wpAny_pure ?_)))))
  have e1 : Builtin.Slice.sliceAdjust none none (-1) (n : Int) = ((n : Int) - 1, -1) := by
    unfold Builtin.Slice.sliceAdjust
    simp
  show wpAny _ _ (match Builtin.Slice.sliceAdjust none none (-1) (n : Int) with | (lo, hi) => pure (lo, (-1 : Int), Builtin.Slice.slicePlaces lo hi (-1))) _ _ s
  rw [e1]
  have e2 : Builtin.Slice.slicePlaces ((n : Int) - 1) (-1) (-1) = n := by
    unfold Builtin.Slice.slicePlaces
    rw [if_neg (by decide)]
    split
    · simp
    · simp
      omega
  show wpAny _ _ (pure ((n : Int) - 1, (-1 : Int), Builtin.Slice.slicePlaces ((n : Int) - 1) (-1) (-1))) _ _ s
  rw [e2]
  exact wpAny_pure h
theorem pick_back (xs : Array Value) : ((List.range xs.size).filterMap fun (m : Nat) => xs[(((xs.size : Int) - 1) + (m : Int) * (-1)).toNat]?).toArray = xs.toList.reverse.toArray := by
  congr 1
  have h1 : ∀ (l : List Nat), (∀ m ∈ l, m < xs.size) → (l.filterMap fun (m : Nat) => xs[(((xs.size : Int) - 1) + (m : Int) * (-1)).toNat]?) = l.map fun m => xs.toList.reverse.getD m .none := by
    intro l
    induction l with
    | nil => intro _; rfl
    | cons m r ih =>
      intro h
      have hm := h m List.mem_cons_self
      have e : (((xs.size : Int) - 1) + (m : Int) * (-1)).toNat = xs.size - 1 - m := by omega
      have e2 : xs[xs.size - 1 - m]? = some (xs.toList.reverse.getD m .none) := by
        rw [Array.getElem?_eq_getElem (show xs.size - 1 - m < xs.size by omega)]
        have hl : m < xs.toList.reverse.length := by simpa using hm
        rw [List.getD_eq_getElem?_getD, List.getElem?_eq_getElem hl, List.getElem_reverse]
        simp
      rw [List.filterMap_cons, e, e2, ih fun y hy => h y (List.mem_cons_of_mem _ hy)]
      rfl
  rw [h1 _ fun m hm => List.mem_range.mp hm]
  refine List.ext_getElem (by simp) fun i a b => ?_
  rw [List.getElem_map, List.getElem_range, List.getD_eq_getElem?_getD, List.getElem?_eq_getElem b]
  rfl
theorem getItem_tuple_back {t sl : Addr} {items : Array Value} {vl vu vs : Value} {Q : Value → Shared → Prop} (ht : IsTup s.heap t items) (hs : s.heap.IsSliceOf sl vl vu vs) (pl : IsPart vl none) (pu : IsPart vu none) (pb : IsPart vs (some (-1)))
    (h : Q (.ref s.heap.objs.size) { s with heap := s.heap.push { cls := .type "tuple", data := .seq items.toList.reverse.toArray } }) (hsz : items.size ≤ sizeLine) : wpAny (model prog w) A (getItem (.ref t) (.ref sl)) Q E s := by
  have hok : sizeOk (.seq items.toList.reverse.toArray) := by
    show items.toList.reverse.toArray.size ≤ sizeLine
    simpa using hsz
  obtain ⟨o, ho, hc, hd⟩ := id hs
  have ts : s.TypeIs (.ref sl) "slice" := ⟨o, ho, hc⟩
  unfold getItem
  try with_reducible refine wpAny_holding ?_
  first | refine wpAny_bind (wpAny_pure ?_) | skip
  refine wpAny_bind (wpAny_sequenceKey ht.typeIs (by decide) ?_)
  refine wpAny_bind (wpAny_callSpecial?_slot (name := Str.ofString "__getitem__") ht.typeIs PyProof.Rows.slot_tuple_getitem (wpAny_call_entry PyProof.Rows.slot_tuple_getitem ht.typeIs PyProof.Rows.entry_tuple_getitem ?_ (PyProof.Rows.args_tuple_getitem _ _)))
  show wpAny _ _ (Builtin.Tuple.tupleItemsOf (.ref t) >>= _) _ _ s
  refine wpAny_bind (tupleItemsOf_ ht ?_)
  refine wpAny_bind (wpAny_typeOf ts ?_)
  rw [if_pos (by decide)]
  refine wpAny_bind (sliceApplied_back hs pl pu pb ?_)
  have hno : ¬ ((((items.size : Int) - 1) == 0 && (-1 : Int) == 1 && items.size == items.size) = true) := by
    intro q
    rw [Bool.and_eq_true, Bool.and_eq_true] at q
    exact absurd q.1.2 (by decide)
  show wpAny _ _ (if (((items.size : Int) - 1) == 0 && (-1 : Int) == 1 && items.size == items.size) = true then _ else _) _ _ s
  rw [if_neg hno, pick_back]
  first
    | exact wpAny_bind (m := Builtin.Tuple.tupleExact _) (wpAny_newObj_type (wpAny_pure ⟨_, rfl, wpAny_pure h⟩) hok)
    | exact wpAny_bind (m := Builtin.Tuple.tupleExact _) (wpAny_newObj_type (wpAny_bind (wpAny_pure (wpAny_pure ⟨_, rfl, wpAny_pure h⟩))) hok)
    | exact wpAny_bind (wpAny_bind (m := Builtin.Tuple.tupleExact _) (wpAny_newObj_type (wpAny_pure (wpAny_pure ⟨_, rfl, wpAny_pure h⟩)) hok))
    | exact wpAny_bind (wpAny_bind (m := Builtin.Tuple.tupleExact _) (wpAny_newObj_type (wpAny_pure ⟨_, rfl, wpAny_pure h⟩) hok))
end
variable [TBL]
section
variable {X : Cx}
def tRevT (K : PySem.W.Frag) (te : TE) : TE := fun σ H Q => te σ H fun x H1 => ∃ a xs, x = .ref a ∧ SqT K H1 a xs ∧ ∀ p o, H1 p = none → o.dict = none → Q (.ref p) (upd H1 p (.frz o (.tup xs.reverse)))
theorem pe_revT {e : Expr} {te : TE} {k : Nat} {p1 p2 p3 pos : Pos} (he : PE X e te) : PE X (.Subscript e (.Slice none none (some (.UnaryOp .USub (.Constant (.int 1) k p1) p2)) p3) pos) (tRevT X.K te) := by
  refine ⟨fun pins s σ H Q J0 h => ?_⟩
  refine Subscript_ (thn (he.run pins s σ H _ J0 h) fun v s1 ⟨x, H1, J1, r1, q1⟩ => ?_)
  obtain ⟨a, xs, ex, hx, q⟩ := q1
  subst ex
  cases r1
  have hst : PO X (some (.UnaryOp .USub (.Constant (.int 1) k p1) p2)) (tPart (tUn (rU fun i => .int (-i)) (tC (.int 1)))) := po_some (pe_un un_neg pe_int)
  refine wpAny_Slice (thn (po_none.run pins s1 σ H1 (fun o H2 => o = none ∧ H2 = H1) J1 ⟨rfl, rfl⟩) fun vl s2 ⟨l, H2, J2, pl, el, e2⟩ => ?_)
  subst el; subst e2
  refine thn (po_none.run pins s2 σ H2 (fun o H3 => o = none ∧ H3 = H2) J2 ⟨rfl, rfl⟩) fun vu s3 ⟨u, H3, J3, pu, eu, e3⟩ => ?_
  subst eu; subst e3
  refine thn (hst.run pins s3 σ H3 (fun o H4 => o = some (-1) ∧ H4 = H3) J3 ⟨1, rfl, -1, rfl, rfl, rfl⟩) fun vs s4 ⟨o, H4, J4, pb, eo, e4⟩ => ?_
  subst eo; subst e4
  have J5 : Inv X pins σ H4 { s4 with heap := s4.heap.push { cls := .type "slice", data := .fields #[vl, vu, vs] } } := J4.kept (t' := s4.toks) fun b ob q => Heap.get?_push_of_some _ q
  obtain ⟨jt, rj, tj, hz⟩ := J5.tuple hx
  have hlen := rj.length
  show wpAny (model X.prog X.w) X.A (subscriptTail e (.Slice none none (some (.UnaryOp .USub (.Constant (.int 1) k p1) p2)) p3) (.ref a) (.ref s4.heap.objs.size)) (EP X pins σ Q) X.xe { s4 with heap := s4.heap.push { cls := .type "slice", data := .fields #[vl, vu, vs] } }
  refine tail_any (ops := [.ref a, .ref s4.heap.objs.size]) tj.typeIs (PyProof.Rows.slot_tuple_getitem.lookup) ?_ (by with_unfolding_all rfl)
  refine getItem_tuple_back tj (Heap.IsSliceOf.new _ vl vu vs) pl pu pb ?_ (by rw [List.size_toArray]; omega)
  exact lay_tup J5 rj.reverse (by rw [List.length_reverse]; exact hz) q
def revT : PyData → Option PyData
  | .tuple ds => some (.tuple ds.reverse)
  | _ => none
theorem pd_revT {e : Expr} {g : EG} {k1 : Nat} {p1 p2 p3 pos : Pos} (he : PD X e g) : PD X (.Subscript e (.Slice none none (some (.UnaryOp .USub (.Constant (.int 1) k1 p1) p2)) p3) pos) (eUn revT g) :=
  pe_imp (pe_revT he) fun σ H Q ⟨pp, ps, G, S, d, ps', c, s, e, k⟩ => by
    obtain ⟨x, p1, e1, e⟩ := bindP_inv e
    obtain ⟨d', e2, e⟩ := map_inv e
    cases e
    refine ⟨pp, ps, G, S, x, _, c, s, e1, fun v G1 H1 g1 r1 => ?_⟩
    unfold revT at e2
    split at e2
    · next ds =>
      cases e2
      obtain ⟨a, xs, rfl, hx, ha⟩ := rv_tup r1
      refine ⟨a, xs, rfl, cf_t g1.cf hx, fun p o hp hd => ?_⟩
      have gl : Go pp _ [] G1 H1 (upd G1 p (.frz o (.tup xs.reverse))) (upd H1 p (.frz o (.tup xs.reverse))) := Go.lay g1.cf hp
      exact k _ _ _ (g1.trans gl) (.tup (.inl ⟨o, upd_same, hd⟩) (RvL.mono gl.gg _ _ ha.rev))
    · cases e2
end
end DL
set_option Elab.async false
set_option linter.all false
set_option maxRecDepth 100000
set_option maxHeartbeats 4000000
namespace W12
open PySem L2 DL
noncomputable section
def topS (i : Nat) : Stmt := PySem.Challenge.pw_nestdeep_k12_lines_and_names_of_anything.main.body.getD i (.Pass ⟨0, 0, 0, 0⟩)
abbrev s__law_draw : Stmt := topS 33
abbrev s_is_name : Stmt := topS 11
abbrev s__law_name : Stmt := topS 36
abbrev s__law_names : Stmt := topS 37
abbrev s__law_pick : Stmt := topS 34
abbrev s__law_some : Stmt := topS 35
abbrev s__law_line : Stmt := topS 39
abbrev s__law_words : Stmt := topS 38
abbrev s__law_spoilt : Stmt := topS 40
abbrev s__law_error : Stmt := topS 41
abbrev s__law_told : Stmt := topS 42
abbrev s_is_rising : Stmt := topS 12
abbrev s_is_integer : Stmt := topS 10
abbrev s_is_part : Stmt := topS 17
abbrev s_is_line : Stmt := topS 18
abbrev s_want_lines : Stmt := topS 19
abbrev s_line_of : Stmt := topS 20
abbrev s_added : Stmt := topS 21
abbrev s_line_sum : Stmt := topS 23
abbrev s_line_text : Stmt := topS 27
abbrev s_is_within : Stmt := topS 26
abbrev s_repeated : Stmt := topS 22
abbrev s_line_times : Stmt := topS 24
abbrev s_line_size : Stmt := topS 25
abbrev s__law_lines_right : Stmt := topS 43
abbrev s__law_sizes_right : Stmt := topS 44
abbrev s_count_of : Stmt := topS 28
abbrev s_part_of : Stmt := topS 29
abbrev s_parse_line : Stmt := topS 30
abbrev s__law_read : Stmt := topS 45
abbrev s__law_texts_right : Stmt := topS 46
abbrev s__law_names_right : Stmt := topS 47
abbrev s__law_right : Stmt := topS 48
abbrev s__law_pot : Stmt := topS 32
abbrev s_law : Stmt := topS 49
def k_DIGITS : PyData := .str (Str.ofString "0123456789")
def k_JOINER : PyData := .str (Str.ofString " + ")
def k_LETTERS : PyData := .str (Str.ofString "abcdefghijklmnopqrstuvwxyz")
def k_MOST_LETTERS : PyData := .int 8
def k_NOTHING : PyData := .str (Str.ofString "0")
def k_RESERVED : PyData := .tuple ([Str.ofString "call", Str.ofString "do", Str.ofString "either", Str.ofString "else", Str.ofString "end", Str.ofString "endless", Str.ofString "form", Str.ofString "frame", Str.ofString "function", Str.ofString "handler", Str.ofString "house", Str.ofString "kind", Str.ofString "limit", Str.ofString "loop", Str.ofString "most", Str.ofString "now", Str.ofString "or", Str.ofString "returns", Str.ofString "room", Str.ofString "shut", Str.ofString "size", Str.ofString "stop", Str.ofString "take", Str.ofString "task", Str.ofString "times"].map .str)
variable [TBL]
structure TX (K : PySem.W.Frag) (mg : Str → Option Value) where
  a__law_draw : Addr
  fd__law_draw : FuncData
  F__law_draw : Fun K "_law_draw" "_law_draw" s__law_draw a__law_draw fd__law_draw
  b__law_draw : Binds K fd__law_draw [Str.ofString "_law_pot_here", Str.ofString "_law_many"] []
  g__law_draw : mg (Str.ofString "_law_draw") = some (.ref a__law_draw)
  a_is_name : Addr
  fd_is_name : FuncData
  F_is_name : Fun K "is_name" "is_name" s_is_name a_is_name fd_is_name
  b_is_name : Binds K fd_is_name [Str.ofString "value"] []
  g_is_name : mg (Str.ofString "is_name") = some (.ref a_is_name)
  a__law_name : Addr
  fd__law_name : FuncData
  F__law_name : Fun K "_law_name" "_law_name" s__law_name a__law_name fd__law_name
  b__law_name : Binds K fd__law_name [Str.ofString "_law_pot_here", Str.ofString "_law_taken"] []
  g__law_name : mg (Str.ofString "_law_name") = some (.ref a__law_name)
  a__law_names : Addr
  fd__law_names : FuncData
  F__law_names : Fun K "_law_names" "_law_names" s__law_names a__law_names fd__law_names
  b__law_names : Binds K fd__law_names [Str.ofString "_law_pot_here", Str.ofString "_law_many", Str.ofString "_law_taken"] []
  g__law_names : mg (Str.ofString "_law_names") = some (.ref a__law_names)
  a__law_pick : Addr
  fd__law_pick : FuncData
  F__law_pick : Fun K "_law_pick" "_law_pick" s__law_pick a__law_pick fd__law_pick
  b__law_pick : Binds K fd__law_pick [Str.ofString "_law_pot_here", Str.ofString "_law_some_here"] []
  g__law_pick : mg (Str.ofString "_law_pick") = some (.ref a__law_pick)
  a__law_some : Addr
  fd__law_some : FuncData
  F__law_some : Fun K "_law_some" "_law_some" s__law_some a__law_some fd__law_some
  b__law_some : Binds K fd__law_some [Str.ofString "_law_pot_here", Str.ofString "_law_given", Str.ofString "_law_least"] []
  g__law_some : mg (Str.ofString "_law_some") = some (.ref a__law_some)
  a__law_line : Addr
  fd__law_line : FuncData
  F__law_line : Fun K "_law_line" "_law_line" s__law_line a__law_line fd__law_line
  b__law_line : Binds K fd__law_line [Str.ofString "_law_pot_here", Str.ofString "_law_frames"] []
  g__law_line : mg (Str.ofString "_law_line") = some (.ref a__law_line)
  a__law_words : Addr
  fd__law_words : FuncData
  F__law_words : Fun K "_law_words" "_law_words" s__law_words a__law_words fd__law_words
  b__law_words : Binds K fd__law_words [] []
  g__law_words : mg (Str.ofString "_law_words") = some (.ref a__law_words)
  a__law_spoilt : Addr
  fd__law_spoilt : FuncData
  F__law_spoilt : Fun K "_law_spoilt" "_law_spoilt" s__law_spoilt a__law_spoilt fd__law_spoilt
  b__law_spoilt : Binds K fd__law_spoilt [Str.ofString "_law_pot_here", Str.ofString "_law_one"] []
  g__law_spoilt : mg (Str.ofString "_law_spoilt") = some (.ref a__law_spoilt)
  a__law_error : Addr
  fd__law_error : FuncData
  F__law_error : Fun K "_law_error" "_law_error" s__law_error a__law_error fd__law_error
  b__law_error : Binds K fd__law_error [Str.ofString "_law_e"] []
  g__law_error : mg (Str.ofString "_law_error") = some (.ref a__law_error)
  a__law_told : Addr
  fd__law_told : FuncData
  F__law_told : Fun K "_law_told" "_law_told" s__law_told a__law_told fd__law_told
  b__law_told : Binds K fd__law_told [Str.ofString "_law_deed"] []
  g__law_told : mg (Str.ofString "_law_told") = some (.ref a__law_told)
  a_is_rising : Addr
  fd_is_rising : FuncData
  F_is_rising : Fun K "is_rising" "is_rising" s_is_rising a_is_rising fd_is_rising
  b_is_rising : Binds K fd_is_rising [Str.ofString "names"] []
  g_is_rising : mg (Str.ofString "is_rising") = some (.ref a_is_rising)
  a_is_integer : Addr
  fd_is_integer : FuncData
  F_is_integer : Fun K "is_integer" "is_integer" s_is_integer a_is_integer fd_is_integer
  b_is_integer : Binds K fd_is_integer [Str.ofString "value", Str.ofString "least"] []
  g_is_integer : mg (Str.ofString "is_integer") = some (.ref a_is_integer)
  a_is_part : Addr
  fd_is_part : FuncData
  F_is_part : Fun K "is_part" "is_part" s_is_part a_is_part fd_is_part
  b_is_part : Binds K fd_is_part [Str.ofString "value"] []
  g_is_part : mg (Str.ofString "is_part") = some (.ref a_is_part)
  a_is_line : Addr
  fd_is_line : FuncData
  F_is_line : Fun K "is_line" "is_line" s_is_line a_is_line fd_is_line
  b_is_line : Binds K fd_is_line [Str.ofString "value"] []
  g_is_line : mg (Str.ofString "is_line") = some (.ref a_is_line)
  a_want_lines : Addr
  fd_want_lines : FuncData
  F_want_lines : Fun K "want_lines" "want_lines" s_want_lines a_want_lines fd_want_lines
  b_want_lines : Binds K fd_want_lines [Str.ofString "values"] []
  g_want_lines : mg (Str.ofString "want_lines") = some (.ref a_want_lines)
  a_line_of : Addr
  fd_line_of : FuncData
  F_line_of : Fun K "line_of" "line_of" s_line_of a_line_of fd_line_of
  b_line_of : Binds K fd_line_of [Str.ofString "counts"] []
  g_line_of : mg (Str.ofString "line_of") = some (.ref a_line_of)
  a_added : Addr
  fd_added : FuncData
  F_added : Fun K "added" "added" s_added a_added fd_added
  b_added : Binds K fd_added [Str.ofString "lines"] []
  g_added : mg (Str.ofString "added") = some (.ref a_added)
  a_line_sum : Addr
  fd_line_sum : FuncData
  F_line_sum : Fun K "line_sum" "line_sum" s_line_sum a_line_sum fd_line_sum
  b_line_sum : Binds K fd_line_sum [Str.ofString "lines"] []
  g_line_sum : mg (Str.ofString "line_sum") = some (.ref a_line_sum)
  a_line_text : Addr
  fd_line_text : FuncData
  F_line_text : Fun K "line_text" "line_text" s_line_text a_line_text fd_line_text
  b_line_text : Binds K fd_line_text [Str.ofString "line"] []
  g_line_text : mg (Str.ofString "line_text") = some (.ref a_line_text)
  a_is_within : Addr
  fd_is_within : FuncData
  F_is_within : Fun K "is_within" "is_within" s_is_within a_is_within fd_is_within
  b_is_within : Binds K fd_is_within [Str.ofString "line", Str.ofString "other"] []
  g_is_within : mg (Str.ofString "is_within") = some (.ref a_is_within)
  a_repeated : Addr
  fd_repeated : FuncData
  F_repeated : Fun K "repeated" "repeated" s_repeated a_repeated fd_repeated
  b_repeated : Binds K fd_repeated [Str.ofString "line", Str.ofString "count"] []
  g_repeated : mg (Str.ofString "repeated") = some (.ref a_repeated)
  a_line_times : Addr
  fd_line_times : FuncData
  F_line_times : Fun K "line_times" "line_times" s_line_times a_line_times fd_line_times
  b_line_times : Binds K fd_line_times [Str.ofString "line", Str.ofString "count"] []
  g_line_times : mg (Str.ofString "line_times") = some (.ref a_line_times)
  a_line_size : Addr
  fd_line_size : FuncData
  F_line_size : Fun K "line_size" "line_size" s_line_size a_line_size fd_line_size
  b_line_size : Binds K fd_line_size [Str.ofString "line", Str.ofString "sizes"] []
  g_line_size : mg (Str.ofString "line_size") = some (.ref a_line_size)
  a__law_lines_right : Addr
  fd__law_lines_right : FuncData
  F__law_lines_right : Fun K "_law_lines_right" "_law_lines_right" s__law_lines_right a__law_lines_right fd__law_lines_right
  b__law_lines_right : Binds K fd__law_lines_right [Str.ofString "_law_pot_here", Str.ofString "_law_frames"] []
  g__law_lines_right : mg (Str.ofString "_law_lines_right") = some (.ref a__law_lines_right)
  c__law_lines_right : Addr
  t__law_lines_right : Addr
  C__law_lines_right : FunC K "_law_lines_right" "_law_lines_right" s__law_lines_right a__law_lines_right fd__law_lines_right c__law_lines_right
  a__law_sizes_right : Addr
  fd__law_sizes_right : FuncData
  F__law_sizes_right : Fun K "_law_sizes_right" "_law_sizes_right" s__law_sizes_right a__law_sizes_right fd__law_sizes_right
  b__law_sizes_right : Binds K fd__law_sizes_right [Str.ofString "_law_pot_here", Str.ofString "_law_frames"] []
  g__law_sizes_right : mg (Str.ofString "_law_sizes_right") = some (.ref a__law_sizes_right)
  c__law_sizes_right : Addr
  t__law_sizes_right : Addr
  C__law_sizes_right : FunC K "_law_sizes_right" "_law_sizes_right" s__law_sizes_right a__law_sizes_right fd__law_sizes_right c__law_sizes_right
  a_count_of : Addr
  fd_count_of : FuncData
  F_count_of : Fun K "count_of" "count_of" s_count_of a_count_of fd_count_of
  b_count_of : Binds K fd_count_of [Str.ofString "word"] []
  g_count_of : mg (Str.ofString "count_of") = some (.ref a_count_of)
  a_part_of : Addr
  fd_part_of : FuncData
  F_part_of : Fun K "part_of" "part_of" s_part_of a_part_of fd_part_of
  b_part_of : Binds K fd_part_of [Str.ofString "text"] []
  g_part_of : mg (Str.ofString "part_of") = some (.ref a_part_of)
  a_parse_line : Addr
  fd_parse_line : FuncData
  F_parse_line : Fun K "parse_line" "parse_line" s_parse_line a_parse_line fd_parse_line
  b_parse_line : Binds K fd_parse_line [Str.ofString "text"] []
  g_parse_line : mg (Str.ofString "parse_line") = some (.ref a_parse_line)
  a__law_read : Addr
  fd__law_read : FuncData
  F__law_read : Fun K "_law_read" "_law_read" s__law_read a__law_read fd__law_read
  b__law_read : Binds K fd__law_read [Str.ofString "_law_given"] []
  g__law_read : mg (Str.ofString "_law_read") = some (.ref a__law_read)
  a__law_texts_right : Addr
  fd__law_texts_right : FuncData
  F__law_texts_right : Fun K "_law_texts_right" "_law_texts_right" s__law_texts_right a__law_texts_right fd__law_texts_right
  b__law_texts_right : Binds K fd__law_texts_right [Str.ofString "_law_pot_here", Str.ofString "_law_frames"] []
  g__law_texts_right : mg (Str.ofString "_law_texts_right") = some (.ref a__law_texts_right)
  a__law_names_right : Addr
  fd__law_names_right : FuncData
  F__law_names_right : Fun K "_law_names_right" "_law_names_right" s__law_names_right a__law_names_right fd__law_names_right
  b__law_names_right : Binds K fd__law_names_right [Str.ofString "_law_pot_here"] []
  g__law_names_right : mg (Str.ofString "_law_names_right") = some (.ref a__law_names_right)
  a__law_right : Addr
  fd__law_right : FuncData
  F__law_right : Fun K "_law_right" "_law_right" s__law_right a__law_right fd__law_right
  b__law_right : Binds K fd__law_right [Str.ofString "_law_pot_here"] []
  g__law_right : mg (Str.ofString "_law_right") = some (.ref a__law_right)
  a__law_pot : Addr
  fd__law_pot : FuncData
  F__law_pot : Fun K "_law_pot" "_law_pot" s__law_pot a__law_pot fd__law_pot
  b__law_pot : Binds K fd__law_pot [Str.ofString "_law_script", Str.ofString "_law_index"] []
  g__law_pot : mg (Str.ofString "_law_pot") = some (.ref a__law_pot)
  a_law : Addr
  fd_law : FuncData
  F_law : Fun K "law" "law" s_law a_law fd_law
  b_law : Binds K fd_law [Str.ofString "_law_script"] []
  g_law : mg (Str.ofString "law") = some (.ref a_law)
  k_DIGITS : Cst K mg (Str.ofString "DIGITS") k_DIGITS
  k_JOINER : Cst K mg (Str.ofString "JOINER") k_JOINER
  k_LETTERS : Cst K mg (Str.ofString "LETTERS") k_LETTERS
  k_MOST_LETTERS : Cst K mg (Str.ofString "MOST_LETTERS") k_MOST_LETTERS
  k_NOTHING : Cst K mg (Str.ofString "NOTHING") k_NOTHING
  k_RESERVED : Cst K mg (Str.ofString "RESERVED") k_RESERVED
  kb0 : ∀ (s : Shared) (ws : List Value), ws.length = ([Str.ofString "value"] : List Str).length → BindsTo s fd_is_line ⟨[], ([Str.ofString "value"] : List Str).zip ws⟩ (([Str.ofString "value"] : List Str).zip (permL [0] ws))
  kb1 : ∀ (s : Shared) (ws : List Value), ws.length = ([Str.ofString "value"] : List Str).length → BindsTo s fd_is_name ⟨[], ([Str.ofString "value"] : List Str).zip ws⟩ (([Str.ofString "value"] : List Str).zip (permL [0] ws))
  m_abs : mg (Str.ofString "abs") = none
  m_all : mg (Str.ofString "all") = none
  m_bool : mg (Str.ofString "bool") = none
  m_dict : mg (Str.ofString "dict") = none
  m_divmod : mg (Str.ofString "divmod") = none
  m_int : mg (Str.ofString "int") = none
  m_isinstance : mg (Str.ofString "isinstance") = none
  m_len : mg (Str.ofString "len") = none
  m_list : mg (Str.ofString "list") = none
  m_max : mg (Str.ofString "max") = none
  m_min : mg (Str.ofString "min") = none
  m_range : mg (Str.ofString "range") = none
  m_repr : mg (Str.ofString "repr") = none
  m_sorted : mg (Str.ofString "sorted") = none
  m_str : mg (Str.ofString "str") = none
  m_sum : mg (Str.ofString "sum") = none
  m_tuple : mg (Str.ofString "tuple") = none
  m_zip : mg (Str.ofString "zip") = none
section
variable {P : Program} {w : World} {K : PySem.W.Frag} {mg : Str → Option Value} {base : Heap}
def lamQ (x : Str) (st : Stmt) : Str := (PyProof.Rows.envOfC x (defScope st) 0 0 .none).qual ++ "<lambda>"
structure TBI (P : Program) (w : World) (T : TX K mg) (base : Heap) : Prop where
  sys : ∃ o, base.get? sysModules = some o
  wd : w = TBL.W
  tb__law_lines_right : LamX.TabB base mg T.c__law_lines_right T.t__law_lines_right
  mt__law_lines_right : (T.t__law_lines_right, lamQ "_law_lines_right" s__law_lines_right) ∈ TBL.T
  u__law_lines_right : ∀ q ∈ TBL.T, q.1 = T.t__law_lines_right → q.2 = lamQ "_law_lines_right" s__law_lines_right
  tb__law_sizes_right : LamX.TabB base mg T.c__law_sizes_right T.t__law_sizes_right
  mt__law_sizes_right : (T.t__law_sizes_right, lamQ "_law_sizes_right" s__law_sizes_right) ∈ TBL.T
  u__law_sizes_right : ∀ q ∈ TBL.T, q.1 = T.t__law_sizes_right → q.2 = lamQ "_law_sizes_right" s__law_sizes_right
  e_InvalidLine : DX.Ex1 P K mg (Str.ofString "InvalidLine") (TBL.C (Str.ofString "InvalidLine")) (Str.ofString "value")
  k_InvalidLine : PySem.W.keepIn K (.ref (TBL.C (Str.ofString "InvalidLine"))) = true
  r_InvalidLine : PySem.W.subIn K (.ref (TBL.C (Str.ofString "InvalidLine"))) (.type "BaseException") = some true
  t_InvalidLine : PySem.W.typeIn K (.ref (TBL.C (Str.ofString "InvalidLine"))) = some (.type "type")
  e_InvalidCount : DX.Ex1 P K mg (Str.ofString "InvalidCount") (TBL.C (Str.ofString "InvalidCount")) (Str.ofString "value")
  k_InvalidCount : PySem.W.keepIn K (.ref (TBL.C (Str.ofString "InvalidCount"))) = true
  r_InvalidCount : PySem.W.subIn K (.ref (TBL.C (Str.ofString "InvalidCount"))) (.type "BaseException") = some true
  t_InvalidCount : PySem.W.typeIn K (.ref (TBL.C (Str.ofString "InvalidCount"))) = some (.type "type")
  e_InvalidSizes : DX.Ex1 P K mg (Str.ofString "InvalidSizes") (TBL.C (Str.ofString "InvalidSizes")) (Str.ofString "name")
  k_InvalidSizes : PySem.W.keepIn K (.ref (TBL.C (Str.ofString "InvalidSizes"))) = true
  r_InvalidSizes : PySem.W.subIn K (.ref (TBL.C (Str.ofString "InvalidSizes"))) (.type "BaseException") = some true
  t_InvalidSizes : PySem.W.typeIn K (.ref (TBL.C (Str.ofString "InvalidSizes"))) = some (.type "type")
  e_InvalidText : DX.Ex1 P K mg (Str.ofString "InvalidText") (TBL.C (Str.ofString "InvalidText")) (Str.ofString "line")
  k_InvalidText : PySem.W.keepIn K (.ref (TBL.C (Str.ofString "InvalidText"))) = true
  r_InvalidText : PySem.W.subIn K (.ref (TBL.C (Str.ofString "InvalidText"))) (.type "BaseException") = some true
  t_InvalidText : PySem.W.typeIn K (.ref (TBL.C (Str.ofString "InvalidText"))) = some (.type "type")
  g_InvalidLine : mg (Str.ofString "InvalidLine") = some (.ref (TBL.C (Str.ofString "InvalidLine")))
  g_InvalidCount : mg (Str.ofString "InvalidCount") = some (.ref (TBL.C (Str.ofString "InvalidCount")))
  g_InvalidSizes : mg (Str.ofString "InvalidSizes") = some (.ref (TBL.C (Str.ofString "InvalidSizes")))
  g_InvalidText : mg (Str.ofString "InvalidText") = some (.ref (TBL.C (Str.ofString "InvalidText")))
  xm_InvalidText_InvalidText : PySem.W.exmOne K (.ref (TBL.C (Str.ofString "InvalidText"))) (.ref (TBL.C (Str.ofString "InvalidText"))) = some true
  xm3_InvalidLine_InvalidCount_InvalidSizes_InvalidLine : PySem.W.exmAny K (.ref (TBL.C (Str.ofString "InvalidLine"))) [.ref (TBL.C (Str.ofString "InvalidLine")), .ref (TBL.C (Str.ofString "InvalidCount")), .ref (TBL.C (Str.ofString "InvalidSizes"))] = some true
  xm3_InvalidLine_InvalidCount_InvalidSizes_InvalidCount : PySem.W.exmAny K (.ref (TBL.C (Str.ofString "InvalidCount"))) [.ref (TBL.C (Str.ofString "InvalidLine")), .ref (TBL.C (Str.ofString "InvalidCount")), .ref (TBL.C (Str.ofString "InvalidSizes"))] = some true
  xm3_InvalidLine_InvalidCount_InvalidSizes_InvalidSizes : PySem.W.exmAny K (.ref (TBL.C (Str.ofString "InvalidSizes"))) [.ref (TBL.C (Str.ofString "InvalidLine")), .ref (TBL.C (Str.ofString "InvalidCount")), .ref (TBL.C (Str.ofString "InvalidSizes"))] = some true
  xf_InvalidLine : XfC K (TBL.C (Str.ofString "InvalidLine"))
  nf_InvalidLine_value : PySem.W.findIn K (.ref (TBL.C (Str.ofString "InvalidLine"))) (Str.ofString "value") = some none
  nf_InvalidLine_name : PySem.W.findIn K (.ref (TBL.C (Str.ofString "InvalidLine"))) (Str.ofString "name") = some none
  xf_InvalidCount : XfC K (TBL.C (Str.ofString "InvalidCount"))
  nf_InvalidCount_value : PySem.W.findIn K (.ref (TBL.C (Str.ofString "InvalidCount"))) (Str.ofString "value") = some none
  nf_InvalidCount_name : PySem.W.findIn K (.ref (TBL.C (Str.ofString "InvalidCount"))) (Str.ofString "name") = some none
  xf_InvalidSizes : XfC K (TBL.C (Str.ofString "InvalidSizes"))
  nf_InvalidSizes_value : PySem.W.findIn K (.ref (TBL.C (Str.ofString "InvalidSizes"))) (Str.ofString "value") = some none
  nf_InvalidSizes_name : PySem.W.findIn K (.ref (TBL.C (Str.ofString "InvalidSizes"))) (Str.ofString "name") = some none
  xf_InvalidText : XfC K (TBL.C (Str.ofString "InvalidText"))
  nf_InvalidText_line : PySem.W.findIn K (.ref (TBL.C (Str.ofString "InvalidText"))) (Str.ofString "line") = some none
  xi_InvalidLine : ExcC K (TBL.C (Str.ofString "InvalidLine"))
  xk_InvalidLine_InvalidLine : PySem.W.kitOne K (.ref (TBL.C (Str.ofString "InvalidLine"))) (.ref (TBL.C (Str.ofString "InvalidLine"))) = some true
  xk_InvalidLine_InvalidCount : PySem.W.kitOne K (.ref (TBL.C (Str.ofString "InvalidLine"))) (.ref (TBL.C (Str.ofString "InvalidCount"))) = some false
  xi_InvalidCount : ExcC K (TBL.C (Str.ofString "InvalidCount"))
  xk_InvalidCount_InvalidLine : PySem.W.kitOne K (.ref (TBL.C (Str.ofString "InvalidCount"))) (.ref (TBL.C (Str.ofString "InvalidLine"))) = some false
  xk_InvalidCount_InvalidCount : PySem.W.kitOne K (.ref (TBL.C (Str.ofString "InvalidCount"))) (.ref (TBL.C (Str.ofString "InvalidCount"))) = some true
  xi_InvalidSizes : ExcC K (TBL.C (Str.ofString "InvalidSizes"))
  xk_InvalidSizes_InvalidLine : PySem.W.kitOne K (.ref (TBL.C (Str.ofString "InvalidSizes"))) (.ref (TBL.C (Str.ofString "InvalidLine"))) = some false
  xk_InvalidSizes_InvalidCount : PySem.W.kitOne K (.ref (TBL.C (Str.ofString "InvalidSizes"))) (.ref (TBL.C (Str.ofString "InvalidCount"))) = some false
theorem sc__law_pot : FnScope [Str.ofString "_law_script", Str.ofString "_law_index", Str.ofString "_law_cell"] [Str.ofString "_law_script", Str.ofString "_law_index"] (defScope s__law_pot) := ⟨rfl, rfl, rfl, by decide +kernel, rfl, by decide +kernel, by decide +kernel⟩
def f__law_pot : List PyData → Pt → Option (List PyData × Pt) := runN 3 (sSet 2 (eIf (asB (eOp ltI (eVar 1) (eCB (one lenD) (aCons (eVar 0) aNil)))) (eCB (one absD) (aCons (eOp ixD (eVar 0) (eVar 1)) aNil)) (eOp addD (eOp mulI (eC (.int 7)) (eVar 1)) (eC (.int 3))))) (aCons (eCB max2 (aCons (eC (.int 0)) (aCons (eOp subI (eVar 2) (eOp powI (eC (.int 10)) (eC (.int 18)))) aNil))) (aCons (eOp modI (eCB (one intD) (aCons (eOp addD (eOp addD (eOp mulI (eOp modI (eCB (one intD) (aCons (eVar 2) aNil)) (eC (.int 2147483629))) (eC (.int 48271))) (eOp mulI (eC (.int 60029)) (eVar 1))) (eC (.int 31))) aNil)) (eC (.int 2147483647))) aNil))
theorem w__law_pot (T : TX K mg) (TI : TBI P w T base) : FnN P w K mg base 1 T.a__law_pot T.fd__law_pot [Str.ofString "_law_script", Str.ofString "_law_index"] f__law_pot :=
  fn_new T.F__law_pot sc__law_pot (by decide) rfl (fun cdv A outer s H E hr => (pds_set (i := 2) sc__law_pot.nd rfl (by first | exact Or.inl rfl | exact Or.inr rfl) (pd_if (pdt_cmp opd_ltI (pd_var 1) (pd_callB cd_len (by rfl) T.m_len (by decide +kernel) (pda_cons (pd_var 0) pda_nil)) (nomark _)) (pd_callB cd_abs (by rfl) T.m_abs (by decide +kernel) (pda_cons (pd_ix ixd (fun _ _ => rfl) (pd_var 0) (pd_var 1)) pda_nil)) (pd_op opd_add (pd_op opd_mul pd_int (pd_var 1)) pd_int)))) (fun cdv A outer s H E hr => (pda_cons (pd_callB (cd_max2 rfl) (by rfl) T.m_max (by decide +kernel) (pda_cons pd_int (pda_cons (pd_op opd_sub (pd_var 2) (pd_op opd_pow pd_int pd_int)) pda_nil))) (pda_cons (pd_op opd_mod (pd_callTy cd_int (by rfl) T.m_int (by decide +kernel) (pda_cons (pd_op opd_add (pd_op opd_add (pd_op opd_mul (pd_op opd_mod (pd_callTy cd_int (by rfl) T.m_int (by decide +kernel) (pda_cons (pd_var 2) pda_nil)) pd_int) pd_int) (pd_op opd_mul pd_int (pd_var 1))) pd_int) pda_nil)) pd_int) pda_nil)))
abbrev f__law_draw : List PyData → Pt → Option (PyData × Pt) := drawFW
theorem sc__law_draw : FnScope ["_law_pot_here", "_law_many", "_law_digit"] ["_law_pot_here", "_law_many"] (defScope s__law_draw) := ⟨rfl, rfl, rfl, by decide +kernel, rfl, by decide +kernel, by decide +kernel⟩
theorem w__law_draw (T : TX K mg) (TI : TBI P w T base) : FnD P w K mg base 1 T.a__law_draw T.fd__law_draw [Str.ofString "_law_pot_here", Str.ofString "_law_many"] f__law_draw := by
  have md := T.m_divmod
  have mi := T.m_int
  refine ok_g T.F__law_draw sc__law_draw (fun vs H Q E h => ?_) (fun cdv A outer s H vs Q E hr h => ?_)
  · obtain ⟨pp, p, G, ds, d, p', hl, c, r, e, q⟩ := h
    rw [r.length]
    exact hl
  · obtain ⟨pp, p, G, ds, d, p', hl, c, r, e, q⟩ := h
    obtain ⟨m, rfl, ok, ez⟩ := drawFW_inv e
    cases ez
    obtain ⟨v, w1, rfl, r1, r2⟩ := rvl_two r
    obtain ⟨a, rfl, ha⟩ := rv_pot r1
    cases r2
    unfold drawOkW at ok
    rw [Bool.and_eq_true, Bool.and_eq_true, Bool.and_eq_true] at ok
    have m0 : 0 < m := of_decide_eq_true ok.1.1.1
    have m1 : m < 1606938044258990275541962092341162602522202993782792835301376 := of_decide_eq_true ok.1.1.2
    have b0 : 0 ≤ p.2.1 := of_decide_eq_true ok.1.2
    have b1 : p.2.1 < 2147483648 := of_decide_eq_true ok.2
    obtain ⟨hG, hH⟩ := c.pot 0 a ha
    have hH : H a = some (.lst [.int p.1, .int p.2.1]) := hH
    refine ⟨_, pss_cons (ps_if (pt_cmpR op_gt (pe_ix ix_list (pv 0) pe_int (fun _ _ => rfl)) pe_int (nomark _))
        (pss_cons (ps_asg (pe_callB call_divmodW (by rfl) md (by decide +kernel) (pa_cons (pe_ix ix_list (pv 0) pe_int (fun _ _ => rfl)) (pa_cons (pv 1) pa_nil)))
            (pg_tup rfl (pgs_cons (pg_sub (pv 0) pe_int set_list) (pgs_cons (pg_name (i := 2) sc__law_draw.nd rfl (.inl rfl)) pgs_nil))))
          (pss_one (ps_ret (pv 2)))) pss_nil)
      (pss_cons (ps_asg (pe_op op_mod (pe_callTy call_int1 (by rfl) mi (by decide +kernel) (pa_cons (pe_op op_add (pe_op op_mulW (pe_ix ix_list (pv 0) pe_int (fun _ _ => rfl)) pe_int) pe_int) pa_nil)) pe_int) (pg_sub (pv 0) pe_int set_list))
      (pss_one (ps_ret (pe_op op_mod (pe_callTy call_int1 (by rfl) mi (by decide +kernel) (pa_cons (pe_op op_fdivW (pe_op op_mod (pe_callTy call_int1 (by rfl) mi (by decide +kernel) (pa_cons (pe_op op_mulW (pe_ix ix_list (pv 0) pe_int (fun _ _ => rfl)) (pe_ix ix_list (pv 0) pe_int (fun _ _ => rfl))) pa_nil)) pe_int) pe_int) pa_nil)) (pv 1))))), ?_⟩
    have hq : ∀ H1, Go pp p [] G H G H1 → Q (.int (drawV m p)) (upd H1 a (.lst [.int (drawS m p).1, .int (drawS m p).2.1])) := fun H1 g1 => q _ G _ (g1.trans (Go.pot g1.cf ha (drawS_lef m p))) (.int _)
    have w0 : (p.2.1 * 39373 + 12227) % 2147483629 < 2147483629 := Int.emod_lt_of_pos _ (by decide)
    have w1 : 0 ≤ (p.2.1 * 39373 + 12227) % 2147483629 := Int.emod_nonneg _ (by decide)
    refine ⟨.ref a, rfl, a, [.int p.1, .int p.2.1], 0, .int p.1, rfl, rfl, .inl (.inl hH), rfl, p.1, 0, rfl, rfl, _, rfl, ite2 (fun hp => ?_) (fun hp => ?_)⟩
    · have hp' : 0 < p.1 := of_decide_eq_true hp
      have ev : drawV m p = p.1 % m := if_pos hp'
      have es : drawS m p = (p.1 / m, p.2) := if_pos hp'
      rw [ev, es] at hq
      refine ⟨.ref a, rfl, a, [.int p.1, .int p.2.1], 0, .int p.1, rfl, rfl, .inl (.inl hH), rfl, .int m, rfl, p.1, m, rfl, divp_w m0 m1, fun t ht => ?_⟩
      have hat : a ≠ t := ne_of_none hH ht
      have hH1 : upd H t (.tup [.int (p.1 / m), .int (p.1 % m)]) a = some (.lst [.int p.1, .int p.2.1]) := by
        rw [upd_ne hat]
        exact hH
      refine ⟨t, [.int (p.1 / m), .int (p.1 % m)], rfl, .inl (.inl upd_same), rfl, .int (p.1 / m), [.int (p.1 % m)], rfl, .ref a, rfl, a, [.int p.1, .int p.2.1], 0, 0, rfl, rfl, hH1, rfl, .int (p.1 % m), [], rfl, rfl, .int (p.1 % m), rfl, ?_⟩
      exact hq _ (Go.hide c ht)
    · have hp' : ¬ 0 < p.1 := fun z => hp (decide_eq_true z)
      have ev : drawV m p = ((p.2.1 * 39373 + 12227) % 2147483629 * ((p.2.1 * 39373 + 12227) % 2147483629) % 2147483563 / 13) % m := if_neg hp'
      have es : drawS m p = (p.1, (p.2.1 * 39373 + 12227) % 2147483629, p.2.2) := if_neg hp'
      rw [ev, es] at hq
      generalize hb : (p.2.1 * 39373 + 12227) % 2147483629 = b at hq w0 w1
      refine ⟨.ref a, rfl, a, [.int p.1, .int p.2.1], 1, .int p.2.1, rfl, rfl, .inl (.inl hH), rfl, p.2.1, 39373, rfl, rfl, wide_mul (a := 32) (b := 32) (by omega) (by decide) (by decide) (by decide) (by decide), _, 12227, rfl, rfl, .inl ⟨_, rfl, _, 2147483629, rfl, rfl, (show (0 : Int) < 2147483629 by decide), ?_⟩⟩
      refine ⟨.ref a, rfl, a, [.int p.1, .int p.2.1], 1, 1, rfl, rfl, hH, rfl, ?_⟩
      have hH2 : upd H a (.lst ([V.int p.1, V.int p.2.1].set 1 (.int ((p.2.1 * 39373 + 12227) % 2147483629)))) a = some (.lst [.int p.1, .int b]) := by
        rw [upd_same, hb]
        rfl
      refine ⟨.ref a, rfl, a, [.int p.1, .int b], 1, .int b, rfl, rfl, .inl (.inl hH2), rfl, .ref a, rfl, a, [.int p.1, .int b], 1, .int b, rfl, rfl, .inl (.inl hH2), rfl, b, b, rfl, rfl, wide_mul (a := 32) (b := 32) (by omega) (by omega) (by decide) (by decide) (by decide), .inl ⟨_, rfl, _, 2147483563, rfl, rfl, (show (0 : Int) < 2147483563 by decide), _, 13, rfl, rfl, wide_div (b := 4) (by decide) (by decide) (by decide) (by decide), .inl ⟨_, rfl, .int m, rfl, _, m, rfl, rfl, m0, ?_⟩⟩⟩
      have := hq H (Go.refl c)
      rw [← hb]
      rw [← hb] at this
      exact this
theorem sc_is_name : FnScope [Str.ofString "value", Str.ofString "letter"] [Str.ofString "value"] (defScope s_is_name) := ⟨rfl, rfl, rfl, by decide +kernel, rfl, by decide +kernel, by decide +kernel⟩
def g_is_name : SG := (sSeq (sIf (bOr (bNot (asB (eUn (isiD "str") (eVar 0)))) (bNot (bChain leI leI (eC (.int 1)) (eCB (one lenD) (aCons (eVar 0) aNil)) (eC k_MOST_LETTERS)))) (sRet (eC (.bool false))) sNil) (sRet (eAndV (eOp (inD true) (eVar 0) (eC k_RESERVED)) (eCB (one allD) (aCons (eLc (iStrD (eVar 0)) (tName 1) bYes (eOp (inS false) (eVar 1) (eC k_LETTERS)) [1]) aNil)))))
def f_is_name : List PyData → Pt → Option (PyData × Pt) := runF 2 g_is_name
theorem w_is_name (T : TX K mg) (TI : TBI P w T base) : FnD P w K mg base 1 T.a_is_name T.fd_is_name [Str.ofString "value"] f_is_name :=
  fn_of_body T.F_is_name sc_is_name (by decide) (fun cdv A outer s H E hr => (pds_seq (pds_if (PW.pt (pdw_or (pdt_not (pdt_val (pd_isi (by rfl) T.m_isinstance (by rfl) T.m_str (by decide +kernel) (pd_var 0)))) (pdw_or1 (pdt_not (pdt_chain opd_leI opd_leI pd_int (pd_callB cd_len (by rfl) T.m_len (by decide +kernel) (pda_cons (pd_var 0) pda_nil)) (pd_cst (by rfl) T.k_MOST_LETTERS)))))) (pds_one (pds_ret pd_bl)) pds_nil) (pds_one (pds_ret (pd_and (pd_cmp (opd_notIn (hu_n hr 65 (by decide))) (pd_var 0) (pd_cst (by rfl) T.k_RESERVED) (by rfl)) (pd_one (pd_callB (cd_all rfl) (by rfl) T.m_all (by decide +kernel) (pda_cons (pd_lc (own := [(Str.ofString "letter", 1)]) rfl sc_is_name.nd (pdi_str (pd_var 0)) (blkOk_by (by first | decide +kernel | rfl)) (fun _ _ _ _ _ => (pdg_name (i := 1) sc_is_name.nd rfl (by first | exact Or.inl rfl | exact Or.inr rfl))) (fun _ _ _ _ _ => pdts_nil) (fun _ _ _ _ _ => (pd_cmp opd_inS (pd_var 1) (pd_cst (by rfl) T.k_LETTERS) (by rfl))) (by decide)) pda_nil))))))))
theorem sc__law_name : FnScope [Str.ofString "_law_pot_here", Str.ofString "_law_taken", Str.ofString "_law_letters", Str.ofString "_law_size", Str.ofString "_law_word", Str.ofString "_law_fresh", Str.ofString "_law_turn", Str.ofString "_law_k", Str.ofString "_law_one"] [Str.ofString "_law_pot_here", Str.ofString "_law_taken"] (defScope s__law_name) := ⟨rfl, rfl, rfl, by decide +kernel, rfl, by decide +kernel, by decide +kernel⟩
def g__law_name : SG := (sSeq (sSet 2 (eC (.str (Str.ofString "abcdefghijklmnopqrstuvwxyz")))) (sSeq (sSet 3 (eOp ixD (eLst (aCons (eC (.int 1)) (aCons (eC (.int 1)) (aCons (eC (.int 2)) (aCons (eC (.int 3)) (aCons (eC (.int 8)) aNil)))))) (eCall f__law_draw (aCons (eVar 0) (aCons (eC (.int 5)) aNil))))) (sSeq (sSet 4 (eOp joinD (eC (.str (Str.ofString ""))) (eLc (iRange (aCons (eVar 3) aNil)) (tName 6) bYes (eOp ixD (eVar 2) (eCall f__law_draw (aCons (eVar 0) (aCons (eC (.int 26)) aNil)))) [6]))) (sSeq (sSet 5 (eOp addD (eLst (aCons (eVar 4) aNil)) (eLc (iRange (aCons (eC (.int 90)) aNil)) (tName 7) bYes (eOp addD (eOp addD (eC (.str (Str.ofString "z"))) (eOp ixD (eVar 2) (eOp fdivI (eVar 7) (eC (.int 26))))) (eOp ixD (eVar 2) (eOp modI (eVar 7) (eC (.int 26))))) [7]))) (sRet (eOp ixD (eLc (iOf (eVar 5)) (tName 8) (bAnd (asB (eOp (inD true) (eVar 8) (eVar 1))) (asB (eCall f_is_name (aCons (eVar 8) aNil)))) (eVar 8) [8]) (eC (.int 0))))))))
def f__law_name : List PyData → Pt → Option (PyData × Pt) := runF 9 g__law_name
theorem w__law_name (T : TX K mg) (TI : TBI P w T base) : FnD P w K mg base 2 T.a__law_name T.fd__law_name [Str.ofString "_law_pot_here", Str.ofString "_law_taken"] f__law_name :=
  fn_of_body T.F__law_name sc__law_name (by decide) (fun cdv A outer s H E hr => (pds_seq (pds_set (i := 2) sc__law_name.nd rfl (by first | exact Or.inl rfl | exact Or.inr rfl) pd_str) (pds_seq (pds_set (i := 3) sc__law_name.nd rfl (by first | exact Or.inl rfl | exact Or.inr rfl) (pd_ix ixd (fun _ _ => rfl) (pd_lst (pda_cons pd_int (pda_cons pd_int (pda_cons pd_int (pda_cons pd_int (pda_cons pd_int pda_nil)))))) (pd_call (w__law_draw T TI) (hr.mono (by omega)) (by rfl) T.g__law_draw T.F__law_draw.kp T.b__law_draw (pda_cons (pd_var 0) (pda_cons pd_int pda_nil)) (aCons_l (aCons_l aNil_l))))) (pds_seq (pds_set (i := 4) sc__law_name.nd rfl (by first | exact Or.inl rfl | exact Or.inr rfl) (pd_join pd_str (pd_lc (own := [(Str.ofString "_law_turn", 6)]) rfl sc__law_name.nd (pdi_range1 (by rfl) T.m_range (pda_cons (pd_var 3) pda_nil)) (blkOk_by (by first | decide +kernel | rfl)) (fun _ _ _ _ _ => (pdg_name (i := 6) sc__law_name.nd rfl (by first | exact Or.inl rfl | exact Or.inr rfl))) (fun _ _ _ _ _ => pdts_nil) (fun _ _ _ _ _ => (pd_ix ixd (fun _ _ => rfl) (pd_var 2) (pd_call (w__law_draw T TI) (hr.mono (by omega)) (by rfl) T.g__law_draw T.F__law_draw.kp T.b__law_draw (pda_cons (pd_var 0) (pda_cons pd_int pda_nil)) (aCons_l (aCons_l aNil_l))))) (by decide)))) (pds_seq (pds_set (i := 5) sc__law_name.nd rfl (by first | exact Or.inl rfl | exact Or.inr rfl) (pd_op opd_add (pd_lst (pda_cons (pd_var 4) pda_nil)) (pd_lc (own := [(Str.ofString "_law_k", 7)]) rfl sc__law_name.nd (pdi_range1 (by rfl) T.m_range (pda_cons pd_int pda_nil)) (blkOk_by (by first | decide +kernel | rfl)) (fun _ _ _ _ _ => (pdg_name (i := 7) sc__law_name.nd rfl (by first | exact Or.inl rfl | exact Or.inr rfl))) (fun _ _ _ _ _ => pdts_nil) (fun _ _ _ _ _ => (pd_op opd_add (pd_op opd_add pd_str (pd_ix ixd (fun _ _ => rfl) (pd_var 2) (pd_op opd_fdiv (pd_var 7) pd_int))) (pd_ix ixd (fun _ _ => rfl) (pd_var 2) (pd_op opd_mod (pd_var 7) pd_int)))) (by decide)))) (pds_one (pds_ret (pd_ix ixd (fun _ _ => rfl) (pd_lc (own := [(Str.ofString "_law_one", 8)]) rfl sc__law_name.nd (pdi_data (pd_var 5)) (blkOk_by (by first | decide +kernel | rfl)) (fun _ _ _ _ _ => (pdg_name (i := 8) sc__law_name.nd rfl (by first | exact Or.inl rfl | exact Or.inr rfl))) (fun _ _ _ _ _ => (pdts_one (PW.pt (pdw_and (pdt_cmp (opd_notIn (hu_n hr 65 (by decide))) (pd_var 8) (pd_var 1) (by rfl)) (pdw_and1 (pdt_val (pd_call (w_is_name T TI) (hr.mono (by omega)) (by rfl) T.g_is_name T.F_is_name.kp T.b_is_name (pda_cons (pd_var 8) pda_nil) (aCons_l aNil_l)))))))) (fun _ _ _ _ _ => (pd_var 8)) (by decide)) pd_int))))))))
theorem sc__law_names : FnScope [Str.ofString "_law_pot_here", Str.ofString "_law_many", Str.ofString "_law_taken", Str.ofString "_law_found", Str.ofString "_law_turn"] [Str.ofString "_law_pot_here", Str.ofString "_law_many", Str.ofString "_law_taken"] (defScope s__law_names) := ⟨rfl, rfl, rfl, by decide +kernel, rfl, by decide +kernel, by decide +kernel⟩
def g__law_names : SG := (sSeq (sNew 3) (sSeq (sFor (iRange (aCons (eVar 1) aNil)) (tName 4) (sApp 3 (eFrz 3 (eCall f__law_name (aCons (eVar 0) (aCons (eOp addD (eVar 2) (eVar 3)) aNil)))))) (sFrz 3 (sRet (eVar 3)))))
def f__law_names : List PyData → Pt → Option (PyData × Pt) := runF 5 g__law_names
theorem w__law_names (T : TX K mg) (TI : TBI P w T base) : FnD P w K mg base 3 T.a__law_names T.fd__law_names [Str.ofString "_law_pot_here", Str.ofString "_law_many", Str.ofString "_law_taken"] f__law_names :=
  fn_of_body T.F__law_names sc__law_names (by decide) (fun cdv A outer s H E hr => (pds_seq (pds_new (i := 3) sc__law_names.nd rfl (by first | exact Or.inl rfl | exact Or.inr rfl)) (pds_seq (pds_for PassesOwn.never rfl (pdi_range1 (by rfl) T.m_range (pda_cons (pd_var 1) pda_nil)) (pdg_name (i := 4) sc__law_names.nd rfl (by first | exact Or.inl rfl | exact Or.inr rfl)) (pds_one (pds_app (i := 3) rfl (by first | exact Or.inl rfl | exact Or.inr (Or.inl rfl)) (pd_frz (i := 3) (pd_call (w__law_name T TI) (hr.mono (by omega)) (by rfl) T.g__law_name T.F__law_name.kp T.b__law_name (pda_cons (pd_var 0) (pda_cons (pd_op opd_add (pd_var 2) (pd_var 3)) pda_nil)) (aCons_l (aCons_l aNil_l))))))) (pds_frz (pds_one (pds_ret (pd_var 3)))))))
theorem sc__law_pick : FnScope [Str.ofString "_law_pot_here", Str.ofString "_law_some_here"] [Str.ofString "_law_pot_here", Str.ofString "_law_some_here"] (defScope s__law_pick) := ⟨rfl, rfl, rfl, by decide +kernel, rfl, by decide +kernel, by decide +kernel⟩
def g__law_pick : SG := (sRet (eOp ixD (eVar 1) (eCall f__law_draw (aCons (eVar 0) (aCons (eCB (one lenD) (aCons (eVar 1) aNil)) aNil)))))
def f__law_pick : List PyData → Pt → Option (PyData × Pt) := runF 2 g__law_pick
theorem w__law_pick (T : TX K mg) (TI : TBI P w T base) : FnD P w K mg base 2 T.a__law_pick T.fd__law_pick [Str.ofString "_law_pot_here", Str.ofString "_law_some_here"] f__law_pick :=
  fn_of_body T.F__law_pick sc__law_pick (by decide) (fun cdv A outer s H E hr => (pds_one (pds_ret (pd_ix ixd (fun _ _ => rfl) (pd_var 1) (pd_call (w__law_draw T TI) (hr.mono (by omega)) (by rfl) T.g__law_draw T.F__law_draw.kp T.b__law_draw (pda_cons (pd_var 0) (pda_cons (pd_callB cd_len (by rfl) T.m_len (by decide +kernel) (pda_cons (pd_var 1) pda_nil)) pda_nil)) (aCons_l (aCons_l aNil_l)))))))
theorem sc__law_some : FnScope [Str.ofString "_law_pot_here", Str.ofString "_law_given", Str.ofString "_law_least", Str.ofString "_law_found", Str.ofString "_law_one"] [Str.ofString "_law_pot_here", Str.ofString "_law_given", Str.ofString "_law_least"] (defScope s__law_some) := ⟨rfl, rfl, rfl, by decide +kernel, rfl, by decide +kernel, by decide +kernel⟩
def g__law_some : SG := (sSeq (sSet 3 (eLc (iOf (eVar 1)) (tName 4) (asB (eOp eqD (eCall f__law_draw (aCons (eVar 0) (aCons (eC (.int 2)) aNil))) (eC (.int 0)))) (eVar 4) [4])) (sRet (eIf (asB (eOp geI (eCB (one lenD) (aCons (eVar 3) aNil)) (eVar 2))) (eVar 3) (eCB (one listD) (aCons (eSl (eVar 1) oNone (oSome (eVar 2))) aNil)))))
def f__law_some : List PyData → Pt → Option (PyData × Pt) := runF 5 g__law_some
theorem w__law_some (T : TX K mg) (TI : TBI P w T base) : FnD P w K mg base 2 T.a__law_some T.fd__law_some [Str.ofString "_law_pot_here", Str.ofString "_law_given", Str.ofString "_law_least"] f__law_some :=
  fn_of_body T.F__law_some sc__law_some (by decide) (fun cdv A outer s H E hr => (pds_seq (pds_setLc (i := 3) (own := [(Str.ofString "_law_one", 4)]) rfl sc__law_some.nd rfl rfl (sw_true rfl rfl rfl (by decide +kernel)) (pdi_data (pd_var 1)) (blkOk_by (by first | decide +kernel | rfl)) (fun _ _ _ _ _ => (pdg_name (i := 4) sc__law_some.nd rfl (by first | exact Or.inl rfl | exact Or.inr rfl))) (fun _ _ _ _ _ => (pdts_one (pdt_cmp (opd_eq (hu_n hr 64 (by decide))) (pd_call (w__law_draw T TI) (hr.mono (by omega)) (by rfl) T.g__law_draw T.F__law_draw.kp T.b__law_draw (pda_cons (pd_var 0) (pda_cons pd_int pda_nil)) (aCons_l (aCons_l aNil_l))) pd_int (nomark _)))) (fun _ _ _ _ _ => (pd_var 4)) (by decide)) (pds_one (pds_ret (pd_if (pdt_cmp opd_geI (pd_callB cd_len (by rfl) T.m_len (by decide +kernel) (pda_cons (pd_var 3) pda_nil)) (pd_var 2) (nomark _)) (pd_var 3) (pd_callTy cd_list (by rfl) T.m_list (by decide +kernel) (pda_cons (pd_slice (pd_var 1) pdo_none (pdo_some (pd_var 2))) pda_nil)))))))
theorem sc__law_line : FnScope [Str.ofString "_law_pot_here", Str.ofString "_law_frames", Str.ofString "_law_frame"] [Str.ofString "_law_pot_here", Str.ofString "_law_frames"] (defScope s__law_line) := ⟨rfl, rfl, rfl, by decide +kernel, rfl, by decide +kernel, by decide +kernel⟩
def g__law_line : SG := (sRet (eCB (one tupleD) (aCons (eLc (iOf (eCB (one sortSD) (aCons (eCall f__law_some (aCons (eVar 0) (aCons (eVar 1) (aCons (eC (.int 1)) aNil)))) aNil))) (tName 2) bYes (eTup (aCons (eVar 2) (aCons (eOp addD (eC (.int 1)) (eCall f__law_draw (aCons (eVar 0) (aCons (eC (.int 40)) aNil)))) aNil))) [2]) aNil)))
def f__law_line : List PyData → Pt → Option (PyData × Pt) := runF 3 g__law_line
theorem w__law_line (T : TX K mg) (TI : TBI P w T base) : FnD P w K mg base 3 T.a__law_line T.fd__law_line [Str.ofString "_law_pot_here", Str.ofString "_law_frames"] f__law_line :=
  fn_of_body T.F__law_line sc__law_line (by decide) (fun cdv A outer s H E hr => (pds_one (pds_ret (pd_callTy cd_tuple (by rfl) T.m_tuple (by decide +kernel) (pda_cons (pd_lc (own := [(Str.ofString "_law_frame", 2)]) rfl sc__law_line.nd (pdi_data (pd_callB cd_sortS (by rfl) T.m_sorted (by decide +kernel) (pda_cons (pd_call (w__law_some T TI) (hr.mono (by omega)) (by rfl) T.g__law_some T.F__law_some.kp T.b__law_some (pda_cons (pd_var 0) (pda_cons (pd_var 1) (pda_cons pd_int pda_nil))) (aCons_l (aCons_l (aCons_l aNil_l)))) pda_nil))) (blkOk_by (by first | decide +kernel | rfl)) (fun _ _ _ _ _ => (pdg_name (i := 2) sc__law_line.nd rfl (by first | exact Or.inl rfl | exact Or.inr rfl))) (fun _ _ _ _ _ => pdts_nil) (fun _ _ _ _ _ => (pd_tup (pda_cons (pd_var 2) (pda_cons (pd_op opd_add pd_int (pd_call (w__law_draw T TI) (hr.mono (by omega)) (by rfl) T.g__law_draw T.F__law_draw.kp T.b__law_draw (pda_cons (pd_var 0) (pda_cons pd_int pda_nil)) (aCons_l (aCons_l aNil_l)))) pda_nil)))) (by decide)) pda_nil)))))
theorem sc__law_words : FnScope [Str.ofString "_law_first"] [] (defScope s__law_words) := ⟨rfl, rfl, rfl, by decide +kernel, rfl, by decide +kernel, by decide +kernel⟩
def g__law_words : SG := (sSeq (sSet 0 (eC (.str (Str.ofString "call do either else end endless form frame function handler house kind limit loop most")))) (sRet (eOp splitD (eOp addD (eVar 0) (eC (.str (Str.ofString " now or returns room shut size stop take task times")))) (eC (.str (Str.ofString " "))))))
def f__law_words : List PyData → Pt → Option (PyData × Pt) := runF 1 g__law_words
theorem w__law_words (T : TX K mg) (TI : TBI P w T base) : FnD P w K mg base 1 T.a__law_words T.fd__law_words [] f__law_words :=
  fn_of_body T.F__law_words sc__law_words (by decide) (fun cdv A outer s H E hr => (pds_seq (pds_set (i := 0) sc__law_words.nd rfl (by first | exact Or.inl rfl | exact Or.inr rfl) pd_str) (pds_one (pds_ret (pd_split (pd_op opd_add (pd_var 0) pd_str) pd_str)))))
theorem sc__law_spoilt : FnScope [Str.ofString "_law_pot_here", Str.ofString "_law_one", Str.ofString "_law_parts", Str.ofString "_law_some_here", Str.ofString "_law_at", Str.ofString "_law_odd", Str.ofString "_law_frame", Str.ofString "_law_count", Str.ofString "_law_part"] [Str.ofString "_law_pot_here", Str.ofString "_law_one"] (defScope s__law_spoilt) := ⟨rfl, rfl, rfl, by decide +kernel, rfl, by decide +kernel, by decide +kernel⟩
def g__law_spoilt : SG := (sSeq (sAsg (tTup 2 (tlCons (tName 4) (tlCons (tName 5) tlNil))) (eTup (aCons (eCall f__law_draw (aCons (eVar 0) (aCons (eCB (one lenD) (aCons (eVar 1) aNil)) aNil))) (aCons (eLst (aCons (eC .none) (aCons (eC (.int 0)) (aCons (eC (.int 1)) (aCons (eC (.bool true)) (aCons (eC (.str (Str.ofString ""))) (aCons (eC (.str (Str.ofString "0"))) (aCons (eC (.str (Str.ofString "1 a"))) (aCons (eLst aNil) (aCons (eC (.dict [])) (aCons (eDisp (kDisp [Str.ofString "a"] (aCons (eC (.int 1)) aNil))) (aCons (eTup (aCons (eC (.str (Str.ofString "a"))) (aCons (eC (.int 1)) aNil))) (aCons (eLst (aCons (eTup (aCons (eC (.str (Str.ofString "a"))) (aCons (eC (.int 1)) aNil))) aNil)) aNil))))))))))))) aNil)))) (sSeq (sAsg (tTup 2 (tlCons (tName 6) (tlCons (tName 7) tlNil))) (eOp ixD (eVar 1) (eVar 4))) (sSeq (sSet 2 (eLst (aCons (eLst (aCons (eVar 6) (aCons (eVar 7) aNil))) (aCons (eTup (aCons (eVar 6) aNil)) (aCons (eTup (aCons (eVar 6) (aCons (eVar 7) (aCons (eC (.int 1)) aNil)))) (aCons (eVar 6) (aCons (eC .none) (aCons (eTup (aCons (eVar 6) (aCons (eC (.int 0)) aNil))) (aCons (eTup (aCons (eVar 6) (aCons (eUn negI (eVar 7)) aNil))) (aCons (eTup (aCons (eVar 6) (aCons (eC (.bool true)) aNil))) aNil)))))))))) (sSeq (sSet 2 (eOp addD (eVar 2) (eLst (aCons (eTup (aCons (eVar 6) (aCons (eCB (one strI) (aCons (eVar 7) aNil)) aNil))) (aCons (eTup (aCons (eVar 6) (aCons (eC .none) aNil))) (aCons (eTup (aCons (eC (.str (Str.ofString ""))) (aCons (eVar 7) aNil))) (aCons (eTup (aCons (eUn upperD (eVar 6)) (aCons (eVar 7) aNil))) (aCons (eTup (aCons (eC (.str (Str.ofString "abcdefghi"))) (aCons (eVar 7) aNil))) aNil)))))))) (sSeq (sSet 2 (eOp addD (eVar 2) (eLst (aCons (eTup (aCons (eCall f__law_pick (aCons (eVar 0) (aCons (eCall f__law_words aNil) aNil))) (aCons (eVar 7) aNil))) (aCons (eTup (aCons (eC (.int 1)) (aCons (eVar 7) aNil))) (aCons (eTup (aCons (eC .none) (aCons (eVar 7) aNil))) (aCons (eTup (aCons (eOp addD (eVar 6) (eC (.str (Str.ofString " ")))) (aCons (eVar 7) aNil))) (aCons (eTup aNil) aNil)))))))) (sSeq (sSet 3 (eLc (iOf (eVar 2)) (tName 8) bYes (eOp addD (eOp addD (eSl (eVar 1) oNone (oSome (eVar 4))) (eTup (aCons (eVar 8) aNil))) (eSl (eVar 1) (oSome (eOp addD (eVar 4) (eC (.int 1)))) oNone)) [8])) (sSeq (sSet 3 (eOp addD (eVar 3) (eLst (aCons (eCB (one listD) (aCons (eVar 1) aNil)) (aCons (eOp addD (eVar 1) (eVar 1)) (aCons (eOp addD (eVar 1) (eTup (aCons (eOp ixD (eVar 1) (eC (.int 0))) aNil))) (aCons (eLc (iOf (eVar 1)) (tName 8) bYes (eCB (one listD) (aCons (eVar 8) aNil)) [8]) (aCons (eOp addD (eVar 1) (eTup (aCons (eTup (aCons (eC (.str (Str.ofString "a"))) (aCons (eC (.int 1)) aNil))) (aCons (eTup (aCons (eC (.str (Str.ofString "a"))) (aCons (eC (.int 2)) aNil))) aNil)))) aNil)))))))) (sSeq (sSet 3 (eOp addD (eOp addD (eVar 3) (eNewL (aRep (aFit (aCons (eUn revT (eVar 1)) aNil)) (eCB (one intD) (aCons (eOp gtI (eCB (one lenD) (aCons (eVar 1) aNil)) (eC (.int 1))) aNil))))) (eVar 5))) (sRet (eCall f__law_pick (aCons (eVar 0) (aCons (eVar 3) aNil))))))))))))
def f__law_spoilt : List PyData → Pt → Option (PyData × Pt) := runF 9 g__law_spoilt
theorem w__law_spoilt (T : TX K mg) (TI : TBI P w T base) : FnD P w K mg base 3 T.a__law_spoilt T.fd__law_spoilt [Str.ofString "_law_pot_here", Str.ofString "_law_one"] f__law_spoilt :=
  fn_of_body T.F__law_spoilt sc__law_spoilt (by decide) (fun cdv A outer s H E hr => (pds_seq (pds_asg (pdg_tup rfl (pdgs_cons (pdg_name (i := 4) sc__law_spoilt.nd rfl (by first | exact Or.inl rfl | exact Or.inr rfl)) (pdgs_cons (pdg_name (i := 5) sc__law_spoilt.nd rfl (by first | exact Or.inl rfl | exact Or.inr rfl)) pdgs_nil))) (pd_tup (pda_cons (pd_call (w__law_draw T TI) (hr.mono (by omega)) (by rfl) T.g__law_draw T.F__law_draw.kp T.b__law_draw (pda_cons (pd_var 0) (pda_cons (pd_callB cd_len (by rfl) T.m_len (by decide +kernel) (pda_cons (pd_var 1) pda_nil)) pda_nil)) (aCons_l (aCons_l aNil_l))) (pda_cons (pd_lst (pda_cons pd_non (pda_cons pd_int (pda_cons pd_int (pda_cons pd_bl (pda_cons pd_str (pda_cons pd_str (pda_cons pd_str (pda_cons (pd_lst pda_nil) (pda_cons pd_emp (pda_cons (pd_disp (pdk_disp (.cons pd_int .nil) (by simp) (by decide))) (pda_cons (pd_tup (pda_cons pd_str (pda_cons pd_int pda_nil))) (pda_cons (pd_lst (pda_cons (pd_tup (pda_cons pd_str (pda_cons pd_int pda_nil))) pda_nil)) pda_nil))))))))))))) pda_nil)))) (pds_seq (pds_asg (pdg_tup rfl (pdgs_cons (pdg_name (i := 6) sc__law_spoilt.nd rfl (by first | exact Or.inl rfl | exact Or.inr rfl)) (pdgs_cons (pdg_name (i := 7) sc__law_spoilt.nd rfl (by first | exact Or.inl rfl | exact Or.inr rfl)) pdgs_nil))) (pd_ix ixd (fun _ _ => rfl) (pd_var 1) (pd_var 4))) (pds_seq (pds_set (i := 2) sc__law_spoilt.nd rfl (by first | exact Or.inl rfl | exact Or.inr rfl) (pd_lst (pda_cons (pd_lst (pda_cons (pd_var 6) (pda_cons (pd_var 7) pda_nil))) (pda_cons (pd_tup (pda_cons (pd_var 6) pda_nil)) (pda_cons (pd_tup (pda_cons (pd_var 6) (pda_cons (pd_var 7) (pda_cons pd_int pda_nil)))) (pda_cons (pd_var 6) (pda_cons pd_non (pda_cons (pd_tup (pda_cons (pd_var 6) (pda_cons pd_int pda_nil))) (pda_cons (pd_tup (pda_cons (pd_var 6) (pda_cons (pd_neg (pd_var 7)) pda_nil))) (pda_cons (pd_tup (pda_cons (pd_var 6) (pda_cons pd_bl pda_nil))) pda_nil)))))))))) (pds_seq (pds_set (i := 2) sc__law_spoilt.nd rfl (by first | exact Or.inl rfl | exact Or.inr rfl) (pd_op opd_add (pd_var 2) (pd_lst (pda_cons (pd_tup (pda_cons (pd_var 6) (pda_cons (pd_callTy cd_str (by rfl) T.m_str (by decide +kernel) (pda_cons (pd_var 7) pda_nil)) pda_nil))) (pda_cons (pd_tup (pda_cons (pd_var 6) (pda_cons pd_non pda_nil))) (pda_cons (pd_tup (pda_cons pd_str (pda_cons (pd_var 7) pda_nil))) (pda_cons (pd_tup (pda_cons (pd_upper (pd_var 6)) (pda_cons (pd_var 7) pda_nil))) (pda_cons (pd_tup (pda_cons pd_str (pda_cons (pd_var 7) pda_nil))) pda_nil)))))))) (pds_seq (pds_set (i := 2) sc__law_spoilt.nd rfl (by first | exact Or.inl rfl | exact Or.inr rfl) (pd_op opd_add (pd_var 2) (pd_lst (pda_cons (pd_tup (pda_cons (pd_call (w__law_pick T TI) (hr.mono (by omega)) (by rfl) T.g__law_pick T.F__law_pick.kp T.b__law_pick (pda_cons (pd_var 0) (pda_cons (pd_call0 (w__law_words T TI) (hr.mono (by omega)) (by rfl) T.g__law_words T.F__law_words.kp T.b__law_words) pda_nil)) (aCons_l (aCons_l aNil_l))) (pda_cons (pd_var 7) pda_nil))) (pda_cons (pd_tup (pda_cons pd_int (pda_cons (pd_var 7) pda_nil))) (pda_cons (pd_tup (pda_cons pd_non (pda_cons (pd_var 7) pda_nil))) (pda_cons (pd_tup (pda_cons (pd_op opd_add (pd_var 6) pd_str) (pda_cons (pd_var 7) pda_nil))) (pda_cons (pd_tup pda_nil) pda_nil)))))))) (pds_seq (pds_setLc (i := 3) (own := [(Str.ofString "_law_part", 8)]) rfl sc__law_spoilt.nd rfl rfl (sw_true rfl rfl rfl (by decide +kernel)) (pdi_data (pd_var 2)) (blkOk_by (by first | decide +kernel | rfl)) (fun _ _ _ _ _ => (pdg_name (i := 8) sc__law_spoilt.nd rfl (by first | exact Or.inl rfl | exact Or.inr rfl))) (fun _ _ _ _ _ => pdts_nil) (fun _ _ _ _ _ => (pd_op opd_add (pd_op opd_add (pd_slice (pd_var 1) pdo_none (pdo_some (pd_var 4))) (pd_tup (pda_cons (pd_var 8) pda_nil))) (pd_slice (pd_var 1) (pdo_some (pd_op opd_add (pd_var 4) pd_int)) pdo_none))) (by decide)) (pds_seq (pds_set (i := 3) sc__law_spoilt.nd rfl (by first | exact Or.inl rfl | exact Or.inr rfl) (pd_op opd_add (pd_var 3) (pd_lst (pda_cons (pd_callTy cd_list (by rfl) T.m_list (by decide +kernel) (pda_cons (pd_var 1) pda_nil)) (pda_cons (pd_op opd_add (pd_var 1) (pd_var 1)) (pda_cons (pd_op opd_add (pd_var 1) (pd_tup (pda_cons (pd_ix ixd (fun _ _ => rfl) (pd_var 1) pd_int) pda_nil))) (pda_cons (pd_lc (own := [(Str.ofString "_law_part", 8)]) rfl sc__law_spoilt.nd (pdi_data (pd_var 1)) (blkOk_by (by first | decide +kernel | rfl)) (fun _ _ _ _ _ => (pdg_name (i := 8) sc__law_spoilt.nd rfl (by first | exact Or.inl rfl | exact Or.inr rfl))) (fun _ _ _ _ _ => pdts_nil) (fun _ _ _ _ _ => (pd_callTy cd_list (by rfl) T.m_list (by decide +kernel) (pda_cons (pd_var 8) pda_nil))) (by decide)) (pda_cons (pd_op opd_add (pd_var 1) (pd_tup (pda_cons (pd_tup (pda_cons pd_str (pda_cons pd_int pda_nil))) (pda_cons (pd_tup (pda_cons pd_str (pda_cons pd_int pda_nil))) pda_nil)))) pda_nil)))))))) (pds_seq (pds_set (i := 3) sc__law_spoilt.nd rfl (by first | exact Or.inl rfl | exact Or.inr rfl) (pd_op opd_add (pd_op opd_add (pd_var 3) (pd_newL (pdn_rep (pdn_lst (pda_cons (pd_revT (pd_var 1)) pda_nil)) (pd_callTy cd_int (by rfl) T.m_int (by decide +kernel) (pda_cons (pd_cmp opd_gtI (pd_callB cd_len (by rfl) T.m_len (by decide +kernel) (pda_cons (pd_var 1) pda_nil)) pd_int (nomark _)) pda_nil))))) (pd_var 5))) (pds_one (pds_ret (pd_call (w__law_pick T TI) (hr.mono (by omega)) (by rfl) T.g__law_pick T.F__law_pick.kp T.b__law_pick (pda_cons (pd_var 0) (pda_cons (pd_var 3) pda_nil)) (aCons_l (aCons_l aNil_l))))))))))))))
theorem sc__law_told : FnScope [Str.ofString "_law_deed", Str.ofString "_law_e"] [Str.ofString "_law_deed"] (defScope s__law_told) := ⟨rfl, rfl, rfl, by decide +kernel, rfl, by decide +kernel, by decide +kernel⟩
def rs__law_told : List Str := [Str.ofString "InvalidLine", Str.ofString "InvalidCount", Str.ofString "InvalidSizes"]
def is__law_error (c d : Str) : Bool := (c == Str.ofString "InvalidLine" && d == Str.ofString "InvalidLine") || (c == Str.ofString "InvalidCount" && d == Str.ofString "InvalidCount")
def he__law_error : HF := (errH is__law_error [(Str.ofString "InvalidLine", Str.ofString "line", Str.ofString "value"), (Str.ofString "InvalidCount", Str.ofString "count", Str.ofString "value")] (Str.ofString "sizes") (Str.ofString "name"))
theorem sc__law_error : FnScope [Str.ofString "_law_e"] [Str.ofString "_law_e"] (defScope s__law_error) := ⟨rfl, rfl, rfl, by decide +kernel, rfl, by decide +kernel, by decide +kernel⟩
theorem w__law_error (T : TX K mg) (TI : TBI P w T base) : ErrOk P w K mg base T.a__law_error T.fd__law_error (Str.ofString "_law_e") rs__law_told he__law_error :=
  err_ok T.F__law_error sc__law_error (fun cdv A outer s H p cls d hz hf => (errs_if (ie := 0) List.mem_cons_self (fun c hc => by simp only [rs__law_told, List.mem_cons, List.not_mem_nil, or_false] at hc; rcases hc with rfl | rfl | rfl <;> (first | exact TI.xi_InvalidLine | exact TI.xi_InvalidCount | exact TI.xi_InvalidSizes)) (fun c hc => by simp only [rs__law_told, List.mem_cons, List.not_mem_nil, or_false] at hc; rcases hc with rfl | rfl | rfl <;> (first | exact TI.xk_InvalidLine_InvalidLine | exact TI.xk_InvalidCount_InvalidLine | exact TI.xk_InvalidSizes_InvalidLine)) hz hf (by rfl) T.m_isinstance (by rfl) TI.g_InvalidLine rfl (.inl rfl) (errs_ret (ie := 0) List.mem_cons_self (fun c hc => by simp only [rs__law_told, List.mem_cons, List.not_mem_nil, or_false] at hc; rcases hc with rfl | rfl | rfl <;> (first | exact ⟨TI.xf_InvalidLine, TI.nf_InvalidLine_value⟩ | exact ⟨TI.xf_InvalidCount, TI.nf_InvalidCount_value⟩ | exact ⟨TI.xf_InvalidSizes, TI.nf_InvalidSizes_value⟩)) hz hf rfl (.inl rfl)) (errs_if (ie := 0) List.mem_cons_self (fun c hc => by simp only [rs__law_told, List.mem_cons, List.not_mem_nil, or_false] at hc; rcases hc with rfl | rfl | rfl <;> (first | exact TI.xi_InvalidLine | exact TI.xi_InvalidCount | exact TI.xi_InvalidSizes)) (fun c hc => by simp only [rs__law_told, List.mem_cons, List.not_mem_nil, or_false] at hc; rcases hc with rfl | rfl | rfl <;> (first | exact TI.xk_InvalidLine_InvalidCount | exact TI.xk_InvalidCount_InvalidCount | exact TI.xk_InvalidSizes_InvalidCount)) hz hf (by rfl) T.m_isinstance (by rfl) TI.g_InvalidCount rfl (.inl rfl) (errs_ret (ie := 0) List.mem_cons_self (fun c hc => by simp only [rs__law_told, List.mem_cons, List.not_mem_nil, or_false] at hc; rcases hc with rfl | rfl | rfl <;> (first | exact ⟨TI.xf_InvalidLine, TI.nf_InvalidLine_value⟩ | exact ⟨TI.xf_InvalidCount, TI.nf_InvalidCount_value⟩ | exact ⟨TI.xf_InvalidSizes, TI.nf_InvalidSizes_value⟩)) hz hf rfl (.inl rfl)) (errs_one (errs_ret (ie := 0) List.mem_cons_self (fun c hc => by simp only [rs__law_told, List.mem_cons, List.not_mem_nil, or_false] at hc; rcases hc with rfl | rfl | rfl <;> (first | exact ⟨TI.xf_InvalidLine, TI.nf_InvalidLine_name⟩ | exact ⟨TI.xf_InvalidCount, TI.nf_InvalidCount_name⟩ | exact ⟨TI.xf_InvalidSizes, TI.nf_InvalidSizes_name⟩)) hz hf rfl (.inl rfl))))))
def ft__law_told : (Pt → Option (PyData × Pt)) → Pt → Option (PyData × Pt) := toldC (Str.ofString "done") (hErr rs__law_told he__law_error)
theorem w__law_told (T : TX K mg) (TI : TBI P w T base) (k : Nat) : ToldOk P w K mg base "_law_told" s__law_told [Str.ofString "_law_deed", Str.ofString "_law_e"] (Str.ofString "_law_deed") k (defBody s__law_told) ft__law_told := by
  refine told_C (ie := 1) (n := Str.ofString "_law_e") (rs := rs__law_told) sc__law_told.nd rfl rfl TI.sys T.m_repr (fun g cdg A outer s H => by rfl) (fun g cdg A outer s H => ⟨by rfl, by rfl, by rfl⟩) TI.g_InvalidLine TI.g_InvalidCount TI.g_InvalidSizes (by decide) (fun c hc => by simp only [rs__law_told, List.mem_cons, List.not_mem_nil, or_false] at hc; rcases hc with rfl | rfl | rfl <;> (first | exact TI.xm3_InvalidLine_InvalidCount_InvalidSizes_InvalidLine | exact TI.xm3_InvalidLine_InvalidCount_InvalidSizes_InvalidCount | exact TI.xm3_InvalidLine_InvalidCount_InvalidSizes_InvalidSizes)) (fun c fs z e => hErr_mem e) (fun g cdg A outer s H hr => su_err (w__law_error T TI) hr.gd (by have := hr.dp; show (A.deeper _).depth + 8 < _; omega) (by have := hr.un; show (A.deeper _).units + 216 < _; omega) TI.sys (by rfl) T.m_repr (by rfl) T.g__law_error T.F__law_error.kp T.b__law_error rfl rfl)
theorem sc_is_rising : FnScope [Str.ofString "names", Str.ofString "one", Str.ofString "other"] [Str.ofString "names"] (defScope s_is_rising) := ⟨rfl, rfl, rfl, by decide +kernel, rfl, by decide +kernel, by decide +kernel⟩
def g_is_rising : SG := (sRet (eCB (one allD) (aCons (eLc (iZipD (aCons (eVar 0) (aCons (eSl (eVar 0) (oSome (eC (.int 1))) oNone) aNil))) (tTup 2 (tlCons (tName 1) (tlCons (tName 2) tlNil))) bYes (eOp ltS (eVar 1) (eVar 2)) [1, 2]) aNil)))
def f_is_rising : List PyData → Pt → Option (PyData × Pt) := runF 3 g_is_rising
theorem w_is_rising (T : TX K mg) (TI : TBI P w T base) : FnD P w K mg base 1 T.a_is_rising T.fd_is_rising [Str.ofString "names"] f_is_rising :=
  fn_of_body T.F_is_rising sc_is_rising (by decide) (fun cdv A outer s H E hr => (pds_one (pds_ret (pd_callB (cd_all rfl) (by rfl) T.m_all (by decide +kernel) (pda_cons (pd_lc (own := [(Str.ofString "one", 1), (Str.ofString "other", 2)]) rfl sc_is_rising.nd (pdi_zip (by rfl) T.m_zip (pda_cons (pd_var 0) (pda_cons (pd_slice (pd_var 0) (pdo_some pd_int) pdo_none) pda_nil))) (blkOk_by (by first | decide +kernel | rfl)) (fun _ _ _ _ _ => (pdg_tup rfl (pdgs_cons (pdg_name (i := 1) sc_is_rising.nd rfl (by first | exact Or.inl rfl | exact Or.inr rfl)) (pdgs_cons (pdg_name (i := 2) sc_is_rising.nd rfl (by first | exact Or.inl rfl | exact Or.inr rfl)) pdgs_nil)))) (fun _ _ _ _ _ => pdts_nil) (fun _ _ _ _ _ => (pd_cmp opd_ltS (pd_var 1) (pd_var 2) (nomark _))) (by decide)) pda_nil)))))
theorem sc_is_integer : FnScope [Str.ofString "value", Str.ofString "least"] [Str.ofString "value", Str.ofString "least"] (defScope s_is_integer) := ⟨rfl, rfl, rfl, by decide +kernel, rfl, by decide +kernel, by decide +kernel⟩
def g_is_integer : SG := (sRet (eAndV (eUn (isiD "int") (eVar 0)) (eAndV (eNotV (eUn (isiD "bool") (eVar 0))) (eOp geI (eVar 0) (eVar 1)))))
def f_is_integer : List PyData → Pt → Option (PyData × Pt) := runF 2 g_is_integer
theorem w_is_integer (T : TX K mg) (TI : TBI P w T base) : FnD P w K mg base 1 T.a_is_integer T.fd_is_integer [Str.ofString "value", Str.ofString "least"] f_is_integer :=
  fn_of_body T.F_is_integer sc_is_integer (by decide) (fun cdv A outer s H E hr => (pds_one (pds_ret (pd_and (pd_isi (by rfl) T.m_isinstance (by rfl) T.m_int (by decide +kernel) (pd_var 0)) (pd_and (pd_not (pd_isi (by rfl) T.m_isinstance (by rfl) T.m_bool (by decide +kernel) (pd_var 0))) (pd_one (pd_cmp opd_geI (pd_var 0) (pd_var 1) (nomark _))))))))
theorem sc_is_part : FnScope [Str.ofString "value"] [Str.ofString "value"] (defScope s_is_part) := ⟨rfl, rfl, rfl, by decide +kernel, rfl, by decide +kernel, by decide +kernel⟩
def g_is_part : SG := (sRet (eAndV (eUn (isiD "tuple") (eVar 0)) (eAndV (eOp eqD (eCB (one lenD) (aCons (eVar 0) aNil)) (eC (.int 2))) (eAndV (eCall f_is_name (aCons (eOp ixD (eVar 0) (eC (.int 0))) aNil)) (eCall f_is_integer (aCons (eOp ixD (eVar 0) (eC (.int 1))) (aCons (eC (.int 1)) aNil)))))))
def f_is_part : List PyData → Pt → Option (PyData × Pt) := runF 1 g_is_part
theorem w_is_part (T : TX K mg) (TI : TBI P w T base) : FnD P w K mg base 2 T.a_is_part T.fd_is_part [Str.ofString "value"] f_is_part :=
  fn_of_body T.F_is_part sc_is_part (by decide) (fun cdv A outer s H E hr => (pds_one (pds_ret (pd_and (pd_isi (by rfl) T.m_isinstance (by rfl) T.m_tuple (by decide +kernel) (pd_var 0)) (pd_and (pd_cmp (opd_eq (hu_n hr 64 (by decide))) (pd_callB cd_len (by rfl) T.m_len (by decide +kernel) (pda_cons (pd_var 0) pda_nil)) pd_int (nomark _)) (pd_and (pd_call (w_is_name T TI) (hr.mono (by omega)) (by rfl) T.g_is_name T.F_is_name.kp T.b_is_name (pda_cons (pd_ix ixd (fun _ _ => rfl) (pd_var 0) pd_int) pda_nil) (aCons_l aNil_l)) (pd_one (pd_call (w_is_integer T TI) (hr.mono (by omega)) (by rfl) T.g_is_integer T.F_is_integer.kp T.b_is_integer (pda_cons (pd_ix ixd (fun _ _ => rfl) (pd_var 0) pd_int) (pda_cons pd_int pda_nil)) (aCons_l (aCons_l aNil_l))))))))))
theorem sc_is_line : FnScope [Str.ofString "value", Str.ofString "frame", Str.ofString "count", Str.ofString "part"] [Str.ofString "value"] (defScope s_is_line) := ⟨rfl, rfl, rfl, by decide +kernel, rfl, by decide +kernel, by decide +kernel⟩
def g_is_line : SG := (sSeq (sIf (bOr (bNot (asB (eUn (isiD "tuple") (eVar 0)))) (bNot (asB (eCB (one allD) (aCons (eLc (iOf (eVar 0)) (tName 3) bYes (eCall f_is_part (aCons (eVar 3) aNil)) [3]) aNil))))) (sRet (eC (.bool false))) sNil) (sRet (eCall f_is_rising (aCons (eLc (iOf (eVar 0)) (tTup 2 (tlCons (tName 1) (tlCons (tName 2) tlNil))) bYes (eVar 1) [1, 2]) aNil))))
def f_is_line : List PyData → Pt → Option (PyData × Pt) := runF 4 g_is_line
theorem w_is_line (T : TX K mg) (TI : TBI P w T base) : FnD P w K mg base 3 T.a_is_line T.fd_is_line [Str.ofString "value"] f_is_line :=
  fn_of_body T.F_is_line sc_is_line (by decide) (fun cdv A outer s H E hr => (pds_seq (pds_if (PW.pt (pdw_or (pdt_not (pdt_val (pd_isi (by rfl) T.m_isinstance (by rfl) T.m_tuple (by decide +kernel) (pd_var 0)))) (pdw_or1 (pdt_not (pdt_val (pd_callB (cd_all rfl) (by rfl) T.m_all (by decide +kernel) (pda_cons (pd_lc (own := [(Str.ofString "part", 3)]) rfl sc_is_line.nd (pdi_data (pd_var 0)) (blkOk_by (by first | decide +kernel | rfl)) (fun _ _ _ _ _ => (pdg_name (i := 3) sc_is_line.nd rfl (by first | exact Or.inl rfl | exact Or.inr rfl))) (fun _ _ _ _ _ => pdts_nil) (fun _ _ _ _ _ => (pd_call (w_is_part T TI) (hr.mono (by omega)) (by rfl) T.g_is_part T.F_is_part.kp T.b_is_part (pda_cons (pd_var 3) pda_nil) (aCons_l aNil_l))) (by decide)) pda_nil))))))) (pds_one (pds_ret pd_bl)) pds_nil) (pds_one (pds_ret (pd_call (w_is_rising T TI) (hr.mono (by omega)) (by rfl) T.g_is_rising T.F_is_rising.kp T.b_is_rising (pda_cons (pd_lc (own := [(Str.ofString "frame", 1), (Str.ofString "count", 2)]) rfl sc_is_line.nd (pdi_data (pd_var 0)) (blkOk_by (by first | decide +kernel | rfl)) (fun _ _ _ _ _ => (pdg_tup rfl (pdgs_cons (pdg_name (i := 1) sc_is_line.nd rfl (by first | exact Or.inl rfl | exact Or.inr rfl)) (pdgs_cons (pdg_name (i := 2) sc_is_line.nd rfl (by first | exact Or.inl rfl | exact Or.inr rfl)) pdgs_nil)))) (fun _ _ _ _ _ => pdts_nil) (fun _ _ _ _ _ => (pd_var 1)) (by decide)) pda_nil) (aCons_l aNil_l))))))
theorem sc_want_lines : FnScope [Str.ofString "values", Str.ofString "value"] [Str.ofString "values"] (defScope s_want_lines) := ⟨rfl, rfl, rfl, by decide +kernel, rfl, by decide +kernel, by decide +kernel⟩
def g_want_lines : SG := (sFor (iOf (eVar 0)) (tName 1) (sIf (bNot (asB (eCall f_is_line (aCons (eVar 1) aNil)))) (sRaise (Str.ofString "InvalidLine") [Str.ofString "value"] (aCons (eVar 1) aNil)) sNil))
def f_want_lines : List PyData → Pt → Option (PyData × Pt) := runF 2 g_want_lines
theorem w_want_lines (T : TX K mg) (TI : TBI P w T base) : FnX P w K mg base 4 T.a_want_lines T.fd_want_lines [Str.ofString "values"] f_want_lines :=
  fn_of_bodyX T.F_want_lines sc_want_lines (by decide) (fun cdv A outer s H E hr tk pw => (pdsx_one (pdsx_for pw rfl (pdi_data (pd_var 0)) (pdg_name (i := 1) sc_want_lines.nd rfl (by first | exact Or.inl rfl | exact Or.inr rfl)) (pdsx_one (pdsx_if (pdt_not (pdt_val (pd_call (w_is_line T TI) (hr.mono (by omega)) (by rfl) T.g_is_line T.F_is_line.kp T.b_is_line (pda_cons (pd_var 1) pda_nil) (aCons_l aNil_l)))) (pdsx_one (pdsx_raise1 rfl tk TI.e_InvalidLine TI.k_InvalidLine (raises_own TI.r_InvalidLine TI.t_InvalidLine) hr (pda_cons (pd_var 1) pda_nil) (by rfl))) pdsx_nil)))))
theorem sc_line_of : FnScope [Str.ofString "counts", Str.ofString "frame"] [Str.ofString "counts"] (defScope s_line_of) := ⟨rfl, rfl, rfl, by decide +kernel, rfl, by decide +kernel, by decide +kernel⟩
def g_line_of : SG := (sRet (eCB (one tupleD) (aCons (eLc (iOf (eCB (one sortKD) (aCons (eVar 0) aNil))) (tName 1) (asB (eOp gtI (eOp dgD (eVar 0) (eVar 1)) (eC (.int 0)))) (eTup (aCons (eVar 1) (aCons (eOp dgD (eVar 0) (eVar 1)) aNil))) [1]) aNil)))
def f_line_of : List PyData → Pt → Option (PyData × Pt) := runF 2 g_line_of
theorem w_line_of (T : TX K mg) (TI : TBI P w T base) : FnD P w K mg base 1 T.a_line_of T.fd_line_of [Str.ofString "counts"] f_line_of :=
  fn_of_body T.F_line_of sc_line_of (by decide) (fun cdv A outer s H E hr => (pds_one (pds_ret (pd_callTy cd_tuple (by rfl) T.m_tuple (by decide +kernel) (pda_cons (pd_lc (own := [(Str.ofString "frame", 1)]) rfl sc_line_of.nd (pdi_data (pd_callB (cd_sortK rfl) (by rfl) T.m_sorted (by decide +kernel) (pda_cons (pd_var 0) pda_nil))) (blkOk_by (by first | decide +kernel | rfl)) (fun _ _ _ _ _ => (pdg_name (i := 1) sc_line_of.nd rfl (by first | exact Or.inl rfl | exact Or.inr rfl))) (fun _ _ _ _ _ => (pdts_one (pdt_cmp opd_gtI (pd_dget (hu_n hr 1 (by decide)) (pd_var 0) (pd_var 1) (fun _ _ => rfl)) pd_int (nomark _)))) (fun _ _ _ _ _ => (pd_tup (pda_cons (pd_var 1) (pda_cons (pd_dget (hu_n hr 1 (by decide)) (pd_var 0) (pd_var 1) (fun _ _ => rfl)) pda_nil)))) (by decide)) pda_nil)))))
theorem sc_added : FnScope [Str.ofString "lines", Str.ofString "counts", Str.ofString "line", Str.ofString "frame", Str.ofString "count"] [Str.ofString "lines"] (defScope s_added) := ⟨rfl, rfl, rfl, by decide +kernel, rfl, by decide +kernel, by decide +kernel⟩
def g_added : SG := (sSeq (sNewD 1) (sSeq (sFor (iOf (eVar 0)) (tName 2) (sFor (iOf (eVar 2)) (tTup 2 (tlCons (tName 3) (tlCons (tName 4) tlNil))) (sPutD 1 (eVar 3) (eFrz 1 (eOp addD (eGet2 (eVar 1) (eVar 3) (eC (.int 0))) (eVar 4)))))) (sFrz 1 (sRet (eCall f_line_of (aCons (eVar 1) aNil))))))
def f_added : List PyData → Pt → Option (PyData × Pt) := runF 5 g_added
theorem w_added (T : TX K mg) (TI : TBI P w T base) : FnD P w K mg base 2 T.a_added T.fd_added [Str.ofString "lines"] f_added :=
  fn_of_body T.F_added sc_added (by decide) (fun cdv A outer s H E hr => (pds_seq (pds_newD (i := 1) sc_added.nd rfl (by first | exact Or.inl rfl | exact Or.inr rfl)) (pds_seq (pds_for PassesOwn.never rfl (pdi_data (pd_var 0)) (pdg_name (i := 2) sc_added.nd rfl (by first | exact Or.inl rfl | exact Or.inr rfl)) (pds_one (pds_for PassesOwn.never rfl (pdi_data (pd_var 2)) (pdg_tup rfl (pdgs_cons (pdg_name (i := 3) sc_added.nd rfl (by first | exact Or.inl rfl | exact Or.inr rfl)) (pdgs_cons (pdg_name (i := 4) sc_added.nd rfl (by first | exact Or.inl rfl | exact Or.inr rfl)) pdgs_nil))) (pds_one (pds_putD (i := 1) (hu_n hr 1 (by decide)) rfl (by first | exact Or.inl rfl | exact Or.inr (Or.inl rfl)) (pd_var 3) (pd_frz (i := 1) (pd_op opd_add (pd_dget2 (hu_n hr 1 (by decide)) (pd_var 1) (pd_var 3) pd_int) (pd_var 4)))))))) (pds_frz (pds_one (pds_ret (pd_call (w_line_of T TI) (hr.mono (by omega)) (by rfl) T.g_line_of T.F_line_of.kp T.b_line_of (pda_cons (pd_var 1) pda_nil) (aCons_l aNil_l))))))))
theorem sc_line_sum : FnScope [Str.ofString "lines"] [Str.ofString "lines"] (defScope s_line_sum) := ⟨rfl, rfl, rfl, by decide +kernel, rfl, by decide +kernel, by decide +kernel⟩
def g_line_sum : SG := (sSeq (sExprX (eCall f_want_lines (aCons (eVar 0) aNil))) (sRet (eCall f_added (aCons (eVar 0) aNil))))
def f_line_sum : List PyData → Pt → Option (PyData × Pt) := runF 1 g_line_sum
theorem w_line_sum (T : TX K mg) (TI : TBI P w T base) : FnX P w K mg base 5 T.a_line_sum T.fd_line_sum [Str.ofString "lines"] f_line_sum :=
  fn_of_bodyX T.F_line_sum sc_line_sum (by decide) (fun cdv A outer s H E hr tk pw => (pdsx_seq (pdsx_expr (pdx_call (w_want_lines T TI) (hr.mono (by omega)) tk (by rfl) T.g_want_lines T.F_want_lines.kp T.b_want_lines (pda_cons (pd_var 0) pda_nil) (aCons_l aNil_l))) (pdsx_one (pdsx_of (pds_ret (pd_call (w_added T TI) (hr.mono (by omega)) (by rfl) T.g_added T.F_added.kp T.b_added (pda_cons (pd_var 0) pda_nil) (aCons_l aNil_l)))))))
theorem sc_line_text : FnScope [Str.ofString "line", Str.ofString "frame", Str.ofString "count"] [Str.ofString "line"] (defScope s_line_text) := ⟨rfl, rfl, rfl, by decide +kernel, rfl, by decide +kernel, by decide +kernel⟩
def g_line_text : SG := (sSeq (sExprX (eCall f_want_lines (aCons (eLst (aCons (eVar 0) aNil)) aNil))) (sRet (eIf (asB (eOp neD (eVar 0) (eTup aNil))) (eOp joinD (eC k_JOINER) (eLc (iOf (eVar 0)) (tTup 2 (tlCons (tName 1) (tlCons (tName 2) tlNil))) bYes (eFs (aCons (eUn (fun x => (fmtD x).map .str) (eVar 2)) (aCons (eC (.str (Str.ofString " "))) (aCons (eUn (fun x => (fmtD x).map .str) (eVar 1)) aNil)))) [1, 2])) (eC k_NOTHING))))
def f_line_text : List PyData → Pt → Option (PyData × Pt) := runF 3 g_line_text
theorem w_line_text (T : TX K mg) (TI : TBI P w T base) : FnX P w K mg base 5 T.a_line_text T.fd_line_text [Str.ofString "line"] f_line_text :=
  fn_of_bodyX T.F_line_text sc_line_text (by decide) (fun cdv A outer s H E hr tk pw => (pdsx_seq (pdsx_expr (pdx_call (w_want_lines T TI) (hr.mono (by omega)) tk (by rfl) T.g_want_lines T.F_want_lines.kp T.b_want_lines (pda_cons (pd_lst (pda_cons (pd_var 0) pda_nil)) pda_nil) (aCons_l aNil_l))) (pdsx_one (pdsx_of (pds_ret (pd_if (pdt_cmp (opd_ne (hu_n hr 64 (by decide))) (pd_var 0) (pd_tup pda_nil) (nomark _)) (pd_join (pd_cst (by rfl) T.k_JOINER) (pd_lc (own := [(Str.ofString "frame", 1), (Str.ofString "count", 2)]) rfl sc_line_text.nd (pdi_data (pd_var 0)) (blkOk_by (by first | decide +kernel | rfl)) (fun _ _ _ _ _ => (pdg_tup rfl (pdgs_cons (pdg_name (i := 1) sc_line_text.nd rfl (by first | exact Or.inl rfl | exact Or.inr rfl)) (pdgs_cons (pdg_name (i := 2) sc_line_text.nd rfl (by first | exact Or.inl rfl | exact Or.inr rfl)) pdgs_nil)))) (fun _ _ _ _ _ => pdts_nil) (fun _ _ _ _ _ => (pd_fs (PDJ.cons (pd_fmt (pd_var 2)) (PDJ.cons pd_str (PDJ.cons (pd_fmt (pd_var 1)) PDJ.nil))))) (by decide))) (pd_cst (by rfl) T.k_NOTHING)))))))
theorem sc_is_within : FnScope [Str.ofString "line", Str.ofString "other", Str.ofString "counts", Str.ofString "frame", Str.ofString "count"] [Str.ofString "line", Str.ofString "other"] (defScope s_is_within) := ⟨rfl, rfl, rfl, by decide +kernel, rfl, by decide +kernel, by decide +kernel⟩
def g_is_within : SG := (sSeq (sExprX (eCall f_want_lines (aCons (eLst (aCons (eVar 0) (aCons (eVar 1) aNil))) aNil))) (sSeq (sSet 2 (eCB (one dictD) (aCons (eVar 1) aNil))) (sRet (eCB (one allD) (aCons (eLc (iOf (eVar 0)) (tTup 2 (tlCons (tName 3) (tlCons (tName 4) tlNil))) bYes (eOp geI (eGet2 (eVar 2) (eVar 3) (eC (.int 0))) (eVar 4)) [3, 4]) aNil)))))
def f_is_within : List PyData → Pt → Option (PyData × Pt) := runF 5 g_is_within
theorem w_is_within (T : TX K mg) (TI : TBI P w T base) : FnX P w K mg base 5 T.a_is_within T.fd_is_within [Str.ofString "line", Str.ofString "other"] f_is_within :=
  fn_of_bodyX T.F_is_within sc_is_within (by decide) (fun cdv A outer s H E hr tk pw => (pdsx_seq (pdsx_expr (pdx_call (w_want_lines T TI) (hr.mono (by omega)) tk (by rfl) T.g_want_lines T.F_want_lines.kp T.b_want_lines (pda_cons (pd_lst (pda_cons (pd_var 0) (pda_cons (pd_var 1) pda_nil))) pda_nil) (aCons_l aNil_l))) (pdsx_seq (pdsx_of (pds_set (i := 2) sc_is_within.nd rfl (by first | exact Or.inl rfl | exact Or.inr rfl) (pd_callTy (cd_dict rfl) (by rfl) T.m_dict (by decide +kernel) (pda_cons (pd_var 1) pda_nil)))) (pdsx_one (pdsx_of (pds_ret (pd_callB (cd_all rfl) (by rfl) T.m_all (by decide +kernel) (pda_cons (pd_lc (own := [(Str.ofString "frame", 3), (Str.ofString "count", 4)]) rfl sc_is_within.nd (pdi_data (pd_var 0)) (blkOk_by (by first | decide +kernel | rfl)) (fun _ _ _ _ _ => (pdg_tup rfl (pdgs_cons (pdg_name (i := 3) sc_is_within.nd rfl (by first | exact Or.inl rfl | exact Or.inr rfl)) (pdgs_cons (pdg_name (i := 4) sc_is_within.nd rfl (by first | exact Or.inl rfl | exact Or.inr rfl)) pdgs_nil)))) (fun _ _ _ _ _ => pdts_nil) (fun _ _ _ _ _ => (pd_cmp opd_geI (pd_dget2 (hu_n hr 1 (by decide)) (pd_var 2) (pd_var 3) pd_int) (pd_var 4) (nomark _))) (by decide)) pda_nil))))))))
theorem sc_repeated : FnScope [Str.ofString "line", Str.ofString "count", Str.ofString "frame", Str.ofString "number"] [Str.ofString "line", Str.ofString "count"] (defScope s_repeated) := ⟨rfl, rfl, rfl, by decide +kernel, rfl, by decide +kernel, by decide +kernel⟩
def g_repeated : SG := (sRet (eCB (one tupleD) (aCons (eLc (iOf (eVar 0)) (tTup 2 (tlCons (tName 2) (tlCons (tName 3) tlNil))) (asB (eOp gtI (eVar 1) (eC (.int 0)))) (eTup (aCons (eVar 2) (aCons (eOp mulI (eVar 3) (eVar 1)) aNil))) [2, 3]) aNil)))
def f_repeated : List PyData → Pt → Option (PyData × Pt) := runF 4 g_repeated
theorem w_repeated (T : TX K mg) (TI : TBI P w T base) : FnD P w K mg base 1 T.a_repeated T.fd_repeated [Str.ofString "line", Str.ofString "count"] f_repeated :=
  fn_of_body T.F_repeated sc_repeated (by decide) (fun cdv A outer s H E hr => (pds_one (pds_ret (pd_callTy cd_tuple (by rfl) T.m_tuple (by decide +kernel) (pda_cons (pd_lc (own := [(Str.ofString "frame", 2), (Str.ofString "number", 3)]) rfl sc_repeated.nd (pdi_data (pd_var 0)) (blkOk_by (by first | decide +kernel | rfl)) (fun _ _ _ _ _ => (pdg_tup rfl (pdgs_cons (pdg_name (i := 2) sc_repeated.nd rfl (by first | exact Or.inl rfl | exact Or.inr rfl)) (pdgs_cons (pdg_name (i := 3) sc_repeated.nd rfl (by first | exact Or.inl rfl | exact Or.inr rfl)) pdgs_nil)))) (fun _ _ _ _ _ => (pdts_one (pdt_cmp opd_gtI (pd_var 1) pd_int (nomark _)))) (fun _ _ _ _ _ => (pd_tup (pda_cons (pd_var 2) (pda_cons (pd_op opd_mul (pd_var 3) (pd_var 1)) pda_nil)))) (by decide)) pda_nil)))))
theorem sc_line_times : FnScope [Str.ofString "line", Str.ofString "count"] [Str.ofString "line", Str.ofString "count"] (defScope s_line_times) := ⟨rfl, rfl, rfl, by decide +kernel, rfl, by decide +kernel, by decide +kernel⟩
def g_line_times : SG := (sSeq (sExprX (eCall f_want_lines (aCons (eLst (aCons (eVar 0) aNil)) aNil))) (sSeq (sIf (bNot (asB (eCall f_is_integer (aCons (eVar 1) (aCons (eC (.int 0)) aNil))))) (sRaise (Str.ofString "InvalidCount") [Str.ofString "value"] (aCons (eVar 1) aNil)) sNil) (sRet (eCall f_repeated (aCons (eVar 0) (aCons (eVar 1) aNil))))))
def f_line_times : List PyData → Pt → Option (PyData × Pt) := runF 2 g_line_times
theorem w_line_times (T : TX K mg) (TI : TBI P w T base) : FnX P w K mg base 5 T.a_line_times T.fd_line_times [Str.ofString "line", Str.ofString "count"] f_line_times :=
  fn_of_bodyX T.F_line_times sc_line_times (by decide) (fun cdv A outer s H E hr tk pw => (pdsx_seq (pdsx_expr (pdx_call (w_want_lines T TI) (hr.mono (by omega)) tk (by rfl) T.g_want_lines T.F_want_lines.kp T.b_want_lines (pda_cons (pd_lst (pda_cons (pd_var 0) pda_nil)) pda_nil) (aCons_l aNil_l))) (pdsx_seq (pdsx_if (pdt_not (pdt_val (pd_call (w_is_integer T TI) (hr.mono (by omega)) (by rfl) T.g_is_integer T.F_is_integer.kp T.b_is_integer (pda_cons (pd_var 1) (pda_cons pd_int pda_nil)) (aCons_l (aCons_l aNil_l))))) (pdsx_one (pdsx_raise1 rfl tk TI.e_InvalidCount TI.k_InvalidCount (raises_own TI.r_InvalidCount TI.t_InvalidCount) hr (pda_cons (pd_var 1) pda_nil) (by rfl))) pdsx_nil) (pdsx_one (pdsx_of (pds_ret (pd_call (w_repeated T TI) (hr.mono (by omega)) (by rfl) T.g_repeated T.F_repeated.kp T.b_repeated (pda_cons (pd_var 0) (pda_cons (pd_var 1) pda_nil)) (aCons_l (aCons_l aNil_l)))))))))
theorem sc_line_size : FnScope [Str.ofString "line", Str.ofString "sizes", Str.ofString "frame", Str.ofString "count"] [Str.ofString "line", Str.ofString "sizes"] (defScope s_line_size) := ⟨rfl, rfl, rfl, by decide +kernel, rfl, by decide +kernel, by decide +kernel⟩
def g_line_size : SG := (sSeq (sExprX (eCall f_want_lines (aCons (eLst (aCons (eVar 0) aNil)) aNil))) (sSeq (sFor (iOf (eVar 0)) (tTup 2 (tlCons (tName 2) (tlCons (tName 3) tlNil))) (sIf (bNot (asB (eCall f_is_integer (aCons (eGet2 (eVar 1) (eVar 2) (eC (.int 0))) (aCons (eC (.int 1)) aNil))))) (sRaise (Str.ofString "InvalidSizes") [Str.ofString "name"] (aCons (eVar 2) aNil)) sNil)) (sRet (eCB (one sumD) (aCons (eLc (iOf (eVar 0)) (tTup 2 (tlCons (tName 2) (tlCons (tName 3) tlNil))) bYes (eOp mulI (eVar 3) (eOp dgD (eVar 1) (eVar 2))) [2, 3]) aNil)))))
def f_line_size : List PyData → Pt → Option (PyData × Pt) := runF 4 g_line_size
theorem w_line_size (T : TX K mg) (TI : TBI P w T base) : FnX P w K mg base 5 T.a_line_size T.fd_line_size [Str.ofString "line", Str.ofString "sizes"] f_line_size :=
  fn_of_bodyX T.F_line_size sc_line_size (by decide) (fun cdv A outer s H E hr tk pw => (pdsx_seq (pdsx_expr (pdx_call (w_want_lines T TI) (hr.mono (by omega)) tk (by rfl) T.g_want_lines T.F_want_lines.kp T.b_want_lines (pda_cons (pd_lst (pda_cons (pd_var 0) pda_nil)) pda_nil) (aCons_l aNil_l))) (pdsx_seq (pdsx_for pw rfl (pdi_data (pd_var 0)) (pdg_tup rfl (pdgs_cons (pdg_name (i := 2) sc_line_size.nd rfl (by first | exact Or.inl rfl | exact Or.inr rfl)) (pdgs_cons (pdg_name (i := 3) sc_line_size.nd rfl (by first | exact Or.inl rfl | exact Or.inr rfl)) pdgs_nil))) (pdsx_one (pdsx_if (pdt_not (pdt_val (pd_call (w_is_integer T TI) (hr.mono (by omega)) (by rfl) T.g_is_integer T.F_is_integer.kp T.b_is_integer (pda_cons (pd_dget2 (hu_n hr 1 (by decide)) (pd_var 1) (pd_var 2) pd_int) (pda_cons pd_int pda_nil)) (aCons_l (aCons_l aNil_l))))) (pdsx_one (pdsx_raise1 rfl tk TI.e_InvalidSizes TI.k_InvalidSizes (raises_own TI.r_InvalidSizes TI.t_InvalidSizes) hr (pda_cons (pd_var 2) pda_nil) (by rfl))) pdsx_nil))) (pdsx_one (pdsx_of (pds_ret (pd_callB (cd_sum rfl) (by rfl) T.m_sum (by decide +kernel) (pda_cons (pd_lc (own := [(Str.ofString "frame", 2), (Str.ofString "count", 3)]) rfl sc_line_size.nd (pdi_data (pd_var 0)) (blkOk_by (by first | decide +kernel | rfl)) (fun _ _ _ _ _ => (pdg_tup rfl (pdgs_cons (pdg_name (i := 2) sc_line_size.nd rfl (by first | exact Or.inl rfl | exact Or.inr rfl)) (pdgs_cons (pdg_name (i := 3) sc_line_size.nd rfl (by first | exact Or.inl rfl | exact Or.inr rfl)) pdgs_nil)))) (fun _ _ _ _ _ => pdts_nil) (fun _ _ _ _ _ => (pd_op opd_mul (pd_var 3) (pd_dget (hu_n hr 1 (by decide)) (pd_var 1) (pd_var 2) (fun _ _ => rfl)))) (by decide)) pda_nil))))))))
def l__law_lines_right_0 : EG := (eCall f_line_sum (aCons (eVar 9) aNil))
def l__law_lines_right_1 : EG := (eCall f_line_text (aCons (eVar 6) aNil))
def l__law_lines_right_2 : EG := (eCall f_line_sum (aCons (eTup (aCons (eVar 6) (aCons (eVar 7) aNil))) aNil))
def l__law_lines_right_3 : EG := (eCall f_is_within (aCons (eVar 4) (aCons (eVar 6) aNil)))
def l__law_lines_right_4 : EG := (eCall f_is_within (aCons (eVar 6) (aCons (eVar 7) aNil)))
def l__law_lines_right_5 : EG := (eCall f_line_times (aCons (eVar 6) (aCons (eVar 2) aNil)))
def l__law_lines_right_6 : EG := (eCall f_line_size (aCons (eVar 6) (aCons (eC (.dict [])) aNil)))
def l__law_lines_right_7 : EG := (eCall f_line_times (aCons (eVar 4) (aCons (eVar 2) aNil)))
theorem sc__law_lines_right : FnScope [Str.ofString "_law_pot_here", Str.ofString "_law_frames", Str.ofString "_law_number", Str.ofString "_law_told_here", Str.ofString "_law_one", Str.ofString "_law_other", Str.ofString "_law_bad", Str.ofString "_law_more", Str.ofString "_law_due", Str.ofString "_law_rows", Str.ofString "_law_shown"] [Str.ofString "_law_pot_here", Str.ofString "_law_frames"] (defScope s__law_lines_right) := ⟨rfl, rfl, rfl, by decide +kernel, rfl, by decide +kernel, by decide +kernel⟩
def g__law_lines_right : SG := (sSeq (sAsg (tTup 2 (tlCons (tName 4) (tlCons (tName 5) tlNil))) (eTup (aCons (eCall f__law_line (aCons (eVar 0) (aCons (eVar 1) aNil))) (aCons (eCall f__law_line (aCons (eVar 0) (aCons (eVar 1) aNil))) aNil)))) (sSeq (sAsg (tTup 2 (tlCons (tName 6) (tlCons (tName 7) tlNil))) (eTup (aCons (eCall f__law_spoilt (aCons (eVar 0) (aCons (eVar 4) aNil))) (aCons (eCall f__law_spoilt (aCons (eVar 0) (aCons (eVar 5) aNil))) aNil)))) (sSeq (sIf (asB (eOp neD (eLst (aCons (eCall f_is_line (aCons (eVar 4) aNil)) (aCons (eCall f_is_line (aCons (eVar 6) aNil)) (aCons (eCallK f_is_line [0] (aCons (eVar 7) aNil)) (aCons (eCall f_is_line (aCons (eTup aNil) aNil)) aNil))))) (eLst (aCons (eC (.bool true)) (aCons (eC (.bool false)) (aCons (eC (.bool false)) (aCons (eC (.bool true)) aNil))))))) (sRet (eC (.bool false))) sNil) (sSeq (sSet 2 (eCall f__law_pick (aCons (eVar 0) (aCons (eLst (aCons (eUn negI (eC (.int 1))) (aCons (eC (.bool true)) (aCons (eC (.bool false)) (aCons (eC .none) (aCons (eC (.str (Str.ofString "2"))) (aCons (eLst aNil) (aCons (eTup (aCons (eC (.int 1)) aNil)) (aCons (eUn negI (eOp powI (eC (.int 10)) (eC (.int 20)))) aNil))))))))) aNil)))) (sSeq (sAsg (tTup 3 (tlCons (tName 8) (tlCons (tName 9) (tlCons (tName 10) tlNil)))) (eTup (aCons (eCB (one reprD) (aCons (eLst (aCons (eC (.str (Str.ofString "line"))) (aCons (eVar 6) aNil))) aNil)) (aCons (eLst (aCons (eVar 4) (aCons (eVar 6) (aCons (eVar 7) (aCons (eVar 5) aNil))))) (aCons (eCB (one reprD) (aCons (eLst (aCons (eVar 4) (aCons (eVar 6) (aCons (eVar 7) (aCons (eVar 5) aNil))))) aNil)) aNil))))) (sSeq (sOwnN 3 (aFit (aCons (eTold ft__law_told l__law_lines_right_0) aNil))) (sSeq (sApp 3 (eTold ft__law_told l__law_lines_right_1)) (sSeq (sApp 3 (eTold ft__law_told l__law_lines_right_2)) (sSeq (sApp 3 (eTold ft__law_told l__law_lines_right_3)) (sSeq (sApp 3 (eTold ft__law_told l__law_lines_right_4)) (sSeq (sApp 3 (eTold ft__law_told l__law_lines_right_5)) (sSeq (sApp 3 (eTold ft__law_told l__law_lines_right_6)) (sFrz 3 (sSeq (sIf (bOr (asB (eOp neD (eVar 3) (eNewL (aRep (aFit (aCons (eVar 8) aNil)) (eC (.int 7)))))) (asB (eOp neD (eCB (one reprD) (aCons (eVar 9) aNil)) (eVar 10)))) (sRet (eC (.bool false))) sNil) (sRet (eOp eqD (eTold ft__law_told l__law_lines_right_7) (eCB (one reprD) (aCons (eLst (aCons (eC (.str (Str.ofString "count"))) (aCons (eVar 2) aNil))) aNil))))))))))))))))))
def f__law_lines_right : List PyData → Pt → Option (PyData × Pt) := runF 11 g__law_lines_right
theorem w__law_lines_right (T : TX K mg) (TI : TBI P w T base) : FnD P w K mg base 8 T.a__law_lines_right T.fd__law_lines_right [Str.ofString "_law_pot_here", Str.ofString "_law_frames"] f__law_lines_right := by
  refine fn_of_bodyC T.C__law_lines_right sc__law_lines_right (by decide) (fun A outer s H E hr => ?_)
  have hTB := TI.tb__law_lines_right
  have hcode : (cxOf CX0 P w K mg base [Str.ofString "_law_pot_here", Str.ofString "_law_frames", Str.ofString "_law_number", Str.ofString "_law_told_here", Str.ofString "_law_one", Str.ofString "_law_other", Str.ofString "_law_bad", Str.ofString "_law_more", Str.ofString "_law_due", Str.ofString "_law_rows", Str.ofString "_law_shown"] "_law_lines_right" (defScope s__law_lines_right) T.a__law_lines_right (.ref T.c__law_lines_right) A outer s H E).nox.env.code = .ref T.c__law_lines_right := rfl
  have hmT := TI.mt__law_lines_right
  have hu := TI.u__law_lines_right
  exact (pds_seq (pds_asg (pdg_tup rfl (pdgs_cons (pdg_name (i := 4) sc__law_lines_right.nd rfl (by first | exact Or.inl rfl | exact Or.inr rfl)) (pdgs_cons (pdg_name (i := 5) sc__law_lines_right.nd rfl (by first | exact Or.inl rfl | exact Or.inr rfl)) pdgs_nil))) (pd_tup (pda_cons (pd_call (w__law_line T TI) (hr.mono (by omega)) (by rfl) T.g__law_line T.F__law_line.kp T.b__law_line (pda_cons (pd_var 0) (pda_cons (pd_var 1) pda_nil)) (aCons_l (aCons_l aNil_l))) (pda_cons (pd_call (w__law_line T TI) (hr.mono (by omega)) (by rfl) T.g__law_line T.F__law_line.kp T.b__law_line (pda_cons (pd_var 0) (pda_cons (pd_var 1) pda_nil)) (aCons_l (aCons_l aNil_l))) pda_nil)))) (pds_seq (pds_asg (pdg_tup rfl (pdgs_cons (pdg_name (i := 6) sc__law_lines_right.nd rfl (by first | exact Or.inl rfl | exact Or.inr rfl)) (pdgs_cons (pdg_name (i := 7) sc__law_lines_right.nd rfl (by first | exact Or.inl rfl | exact Or.inr rfl)) pdgs_nil))) (pd_tup (pda_cons (pd_call (w__law_spoilt T TI) (hr.mono (by omega)) (by rfl) T.g__law_spoilt T.F__law_spoilt.kp T.b__law_spoilt (pda_cons (pd_var 0) (pda_cons (pd_var 4) pda_nil)) (aCons_l (aCons_l aNil_l))) (pda_cons (pd_call (w__law_spoilt T TI) (hr.mono (by omega)) (by rfl) T.g__law_spoilt T.F__law_spoilt.kp T.b__law_spoilt (pda_cons (pd_var 0) (pda_cons (pd_var 5) pda_nil)) (aCons_l (aCons_l aNil_l))) pda_nil)))) (pds_seq (pds_if (pdt_cmp (opd_ne (hu_n hr 64 (by decide))) (pd_lst (pda_cons (pd_call (w_is_line T TI) (hr.mono (by omega)) (by rfl) T.g_is_line T.F_is_line.kp T.b_is_line (pda_cons (pd_var 4) pda_nil) (aCons_l aNil_l)) (pda_cons (pd_call (w_is_line T TI) (hr.mono (by omega)) (by rfl) T.g_is_line T.F_is_line.kp T.b_is_line (pda_cons (pd_var 6) pda_nil) (aCons_l aNil_l)) (pda_cons (pd_callK (ks := [Str.ofString "value"]) (is := [0]) (w_is_line T TI) (hr.mono (by omega)) (by rfl) T.g_is_line T.F_is_line.kp T.kb0 (pdk_cons (pd_var 7) pdk_nil) (aCons_l aNil_l) (permL_len rfl)) (pda_cons (pd_call (w_is_line T TI) (hr.mono (by omega)) (by rfl) T.g_is_line T.F_is_line.kp T.b_is_line (pda_cons (pd_tup pda_nil) pda_nil) (aCons_l aNil_l)) pda_nil))))) (pd_lst (pda_cons pd_bl (pda_cons pd_bl (pda_cons pd_bl (pda_cons pd_bl pda_nil))))) (nomark _)) (pds_one (pds_ret pd_bl)) pds_nil) (pds_seq (pds_set (i := 2) sc__law_lines_right.nd rfl (by first | exact Or.inl rfl | exact Or.inr rfl) (pd_call (w__law_pick T TI) (hr.mono (by omega)) (by rfl) T.g__law_pick T.F__law_pick.kp T.b__law_pick (pda_cons (pd_var 0) (pda_cons (pd_lst (pda_cons (pd_neg pd_int) (pda_cons pd_bl (pda_cons pd_bl (pda_cons pd_non (pda_cons pd_str (pda_cons (pd_lst pda_nil) (pda_cons (pd_tup (pda_cons pd_int pda_nil)) (pda_cons (pd_neg (pd_op opd_pow pd_int pd_int)) pda_nil))))))))) pda_nil)) (aCons_l (aCons_l aNil_l)))) (pds_seq (pds_asg (pdg_tup rfl (pdgs_cons (pdg_name (i := 8) sc__law_lines_right.nd rfl (by first | exact Or.inl rfl | exact Or.inr rfl)) (pdgs_cons (pdg_name (i := 9) sc__law_lines_right.nd rfl (by first | exact Or.inl rfl | exact Or.inr rfl)) (pdgs_cons (pdg_name (i := 10) sc__law_lines_right.nd rfl (by first | exact Or.inl rfl | exact Or.inr rfl)) pdgs_nil)))) (pd_tup (pda_cons (pd_callB (cd_repr hr TI.sys) (by rfl) T.m_repr (by decide +kernel) (pda_cons (pd_lst (pda_cons pd_str (pda_cons (pd_var 6) pda_nil))) pda_nil)) (pda_cons (pd_lst (pda_cons (pd_var 4) (pda_cons (pd_var 6) (pda_cons (pd_var 7) (pda_cons (pd_var 5) pda_nil))))) (pda_cons (pd_callB (cd_repr hr TI.sys) (by rfl) T.m_repr (by decide +kernel) (pda_cons (pd_lst (pda_cons (pd_var 4) (pda_cons (pd_var 6) (pda_cons (pd_var 7) (pda_cons (pd_var 5) pda_nil))))) pda_nil)) pda_nil))))) (pds_seq (pds_ownN (i := 3) sc__law_lines_right.nd rfl (by first | exact Or.inl rfl | exact Or.inr rfl) (pdn_lst (pda_cons (pd_told (k := 5) T.F__law_told (by rfl) T.g__law_told T.b__law_told sc__law_told rfl (.inl rfl) (w__law_told T TI 5) hTB hcode hmT hu (hr.mono (by omega)) (LamX.lamS_by (sc := defScope s__law_lines_right) (by decide +kernel)) (by rfl) (fun _ _ _ _ _ => rfl) (fun A outer s H E f c' hr tk => (pdx_call (w_line_sum T TI) (hr.mono (by omega)) tk (by rfl) T.g_line_sum T.F_line_sum.kp T.b_line_sum (pda_cons (pd_var 9) pda_nil) (aCons_l aNil_l)))) pda_nil))) (pds_seq (pds_app (i := 3) rfl (by first | exact Or.inl rfl | exact Or.inr (Or.inl rfl)) (pd_told (k := 5) T.F__law_told (by rfl) T.g__law_told T.b__law_told sc__law_told rfl (.inl rfl) (w__law_told T TI 5) hTB hcode hmT hu (hr.mono (by omega)) (LamX.lamS_by (sc := defScope s__law_lines_right) (by decide +kernel)) (by rfl) (fun _ _ _ _ _ => rfl) (fun A outer s H E f c' hr tk => (pdx_call (w_line_text T TI) (hr.mono (by omega)) tk (by rfl) T.g_line_text T.F_line_text.kp T.b_line_text (pda_cons (pd_var 6) pda_nil) (aCons_l aNil_l))))) (pds_seq (pds_app (i := 3) rfl (by first | exact Or.inl rfl | exact Or.inr (Or.inl rfl)) (pd_told (k := 5) T.F__law_told (by rfl) T.g__law_told T.b__law_told sc__law_told rfl (.inl rfl) (w__law_told T TI 5) hTB hcode hmT hu (hr.mono (by omega)) (LamX.lamS_by (sc := defScope s__law_lines_right) (by decide +kernel)) (by rfl) (fun _ _ _ _ _ => rfl) (fun A outer s H E f c' hr tk => (pdx_call (w_line_sum T TI) (hr.mono (by omega)) tk (by rfl) T.g_line_sum T.F_line_sum.kp T.b_line_sum (pda_cons (pd_tup (pda_cons (pd_var 6) (pda_cons (pd_var 7) pda_nil))) pda_nil) (aCons_l aNil_l))))) (pds_seq (pds_app (i := 3) rfl (by first | exact Or.inl rfl | exact Or.inr (Or.inl rfl)) (pd_told (k := 5) T.F__law_told (by rfl) T.g__law_told T.b__law_told sc__law_told rfl (.inl rfl) (w__law_told T TI 5) hTB hcode hmT hu (hr.mono (by omega)) (LamX.lamS_by (sc := defScope s__law_lines_right) (by decide +kernel)) (by rfl) (fun _ _ _ _ _ => rfl) (fun A outer s H E f c' hr tk => (pdx_call (w_is_within T TI) (hr.mono (by omega)) tk (by rfl) T.g_is_within T.F_is_within.kp T.b_is_within (pda_cons (pd_var 4) (pda_cons (pd_var 6) pda_nil)) (aCons_l (aCons_l aNil_l)))))) (pds_seq (pds_app (i := 3) rfl (by first | exact Or.inl rfl | exact Or.inr (Or.inl rfl)) (pd_told (k := 5) T.F__law_told (by rfl) T.g__law_told T.b__law_told sc__law_told rfl (.inl rfl) (w__law_told T TI 5) hTB hcode hmT hu (hr.mono (by omega)) (LamX.lamS_by (sc := defScope s__law_lines_right) (by decide +kernel)) (by rfl) (fun _ _ _ _ _ => rfl) (fun A outer s H E f c' hr tk => (pdx_call (w_is_within T TI) (hr.mono (by omega)) tk (by rfl) T.g_is_within T.F_is_within.kp T.b_is_within (pda_cons (pd_var 6) (pda_cons (pd_var 7) pda_nil)) (aCons_l (aCons_l aNil_l)))))) (pds_seq (pds_app (i := 3) rfl (by first | exact Or.inl rfl | exact Or.inr (Or.inl rfl)) (pd_told (k := 5) T.F__law_told (by rfl) T.g__law_told T.b__law_told sc__law_told rfl (.inl rfl) (w__law_told T TI 5) hTB hcode hmT hu (hr.mono (by omega)) (LamX.lamS_by (sc := defScope s__law_lines_right) (by decide +kernel)) (by rfl) (fun _ _ _ _ _ => rfl) (fun A outer s H E f c' hr tk => (pdx_call (w_line_times T TI) (hr.mono (by omega)) tk (by rfl) T.g_line_times T.F_line_times.kp T.b_line_times (pda_cons (pd_var 6) (pda_cons (pd_var 2) pda_nil)) (aCons_l (aCons_l aNil_l)))))) (pds_seq (pds_app (i := 3) rfl (by first | exact Or.inl rfl | exact Or.inr (Or.inl rfl)) (pd_told (k := 5) T.F__law_told (by rfl) T.g__law_told T.b__law_told sc__law_told rfl (.inl rfl) (w__law_told T TI 5) hTB hcode hmT hu (hr.mono (by omega)) (LamX.lamS_by (sc := defScope s__law_lines_right) (by decide +kernel)) (by rfl) (fun _ _ _ _ _ => rfl) (fun A outer s H E f c' hr tk => (pdx_call (w_line_size T TI) (hr.mono (by omega)) tk (by rfl) T.g_line_size T.F_line_size.kp T.b_line_size (pda_cons (pd_var 6) (pda_cons pd_emp pda_nil)) (aCons_l (aCons_l aNil_l)))))) (pds_frz (pds_seq (pds_if (PW.pt (pdw_or (pdt_cmp (opd_ne (hu_n hr 64 (by decide))) (pd_var 3) (pd_newL (pdn_rep (pdn_lst (pda_cons (pd_var 8) pda_nil)) pd_int)) (nomark _)) (pdw_or1 (pdt_cmp (opd_ne (hu_n hr 64 (by decide))) (pd_callB (cd_repr hr TI.sys) (by rfl) T.m_repr (by decide +kernel) (pda_cons (pd_var 9) pda_nil)) (pd_var 10) (nomark _))))) (pds_one (pds_ret pd_bl)) pds_nil) (pds_one (pds_ret (pd_cmp (opd_eq (hu_n hr 64 (by decide))) (pd_told (k := 5) T.F__law_told (by rfl) T.g__law_told T.b__law_told sc__law_told rfl (.inl rfl) (w__law_told T TI 5) hTB hcode hmT hu (hr.mono (by omega)) (LamX.lamS_by (sc := defScope s__law_lines_right) (by decide +kernel)) (by rfl) (fun _ _ _ _ _ => rfl) (fun A outer s H E f c' hr tk => (pdx_call (w_line_times T TI) (hr.mono (by omega)) tk (by rfl) T.g_line_times T.F_line_times.kp T.b_line_times (pda_cons (pd_var 4) (pda_cons (pd_var 2) pda_nil)) (aCons_l (aCons_l aNil_l))))) (pd_callB (cd_repr hr TI.sys) (by rfl) T.m_repr (by decide +kernel) (pda_cons (pd_lst (pda_cons pd_str (pda_cons (pd_var 2) pda_nil))) pda_nil)) (nomark _))))))))))))))))))
def l__law_sizes_right_0 : EG := (eCall f_line_size (aCons (eVar 2) (aCons (eVar 4) aNil)))
theorem sc__law_sizes_right : FnScope [Str.ofString "_law_pot_here", Str.ofString "_law_frames", Str.ofString "_law_one", Str.ofString "_law_odd", Str.ofString "_law_cells", Str.ofString "_law_names_here", Str.ofString "_law_frame", Str.ofString "_law_first", Str.ofString "_law_turn", Str.ofString "_law_count"] [Str.ofString "_law_pot_here", Str.ofString "_law_frames"] (defScope s__law_sizes_right) := ⟨rfl, rfl, rfl, by decide +kernel, rfl, by decide +kernel, by decide +kernel⟩
def g__law_sizes_right : SG := (sSeq (sSet 2 (eCall f__law_line (aCons (eVar 0) (aCons (eVar 1) aNil)))) (sSeq (sSet 3 (eLst (aCons (eC .none) (aCons (eC (.int 0)) (aCons (eUn negI (eC (.int 1))) (aCons (eC (.bool true)) (aCons (eC (.bool false)) (aCons (eC (.str (Str.ofString "1"))) (aCons (eLst aNil) (aCons (eTup (aCons (eC (.int 2)) aNil)) (aCons (eUn negI (eOp powI (eC (.int 10)) (eC (.int 12)))) aNil))))))))))) (sSeq (sOwnD 4 (eLc (iOf (eVar 1)) (tName 6) bYes (eTup (aCons (eVar 6) (aCons (eOp addD (eC (.int 1)) (eCall f__law_draw (aCons (eVar 0) (aCons (eC (.int 9)) aNil)))) aNil))) [6])) (sSeq (sSet 5 (eCall f__law_some (aCons (eVar 0) (aCons (eLc (iOf (eVar 2)) (tTup 2 (tlCons (tName 6) (tlCons (tName 9) tlNil))) bYes (eVar 6) [6, 9]) (aCons (eC (.int 1)) aNil))))) (sSeq (sFor (iOf (eVar 5)) (tName 6) (sIf (asB (eOp eqD (eCall f__law_draw (aCons (eVar 0) (aCons (eC (.int 2)) aNil))) (eC (.int 0)))) (sPopD 4 (eVar 6)) (sPutD 4 (eVar 6) (eCall f__law_pick (aCons (eVar 0) (aCons (eVar 3) aNil)))))) (sSeq (sSet 7 (eOp ixD (eLc (iOf (eVar 2)) (tTup 2 (tlCons (tName 6) (tlCons (tName 9) tlNil))) (asB (eOp (inD false) (eVar 6) (eVar 5))) (eVar 6) [6, 9]) (eC (.int 0)))) (sFrz 4 (sRet (eOp eqD (eLc (iRange (aCons (eC (.int 2)) aNil)) (tName 8) bYes (eTold ft__law_told l__law_sizes_right_0) [8]) (eNewL (aRep (aFit (aCons (eCB (one reprD) (aCons (eLst (aCons (eC (.str (Str.ofString "sizes"))) (aCons (eVar 7) aNil))) aNil)) aNil)) (eC (.int 2)))))))))))))
def f__law_sizes_right : List PyData → Pt → Option (PyData × Pt) := runF 10 g__law_sizes_right
theorem w__law_sizes_right (T : TX K mg) (TI : TBI P w T base) : FnD P w K mg base 8 T.a__law_sizes_right T.fd__law_sizes_right [Str.ofString "_law_pot_here", Str.ofString "_law_frames"] f__law_sizes_right := by
  refine fn_of_bodyC T.C__law_sizes_right sc__law_sizes_right (by decide) (fun A outer s H E hr => ?_)
  have hTB := TI.tb__law_sizes_right
  have hcode : (cxOf CX0 P w K mg base [Str.ofString "_law_pot_here", Str.ofString "_law_frames", Str.ofString "_law_one", Str.ofString "_law_odd", Str.ofString "_law_cells", Str.ofString "_law_names_here", Str.ofString "_law_frame", Str.ofString "_law_first", Str.ofString "_law_turn", Str.ofString "_law_count"] "_law_sizes_right" (defScope s__law_sizes_right) T.a__law_sizes_right (.ref T.c__law_sizes_right) A outer s H E).nox.env.code = .ref T.c__law_sizes_right := rfl
  have hmT := TI.mt__law_sizes_right
  have hu := TI.u__law_sizes_right
  exact (pds_seq (pds_set (i := 2) sc__law_sizes_right.nd rfl (by first | exact Or.inl rfl | exact Or.inr rfl) (pd_call (w__law_line T TI) (hr.mono (by omega)) (by rfl) T.g__law_line T.F__law_line.kp T.b__law_line (pda_cons (pd_var 0) (pda_cons (pd_var 1) pda_nil)) (aCons_l (aCons_l aNil_l)))) (pds_seq (pds_set (i := 3) sc__law_sizes_right.nd rfl (by first | exact Or.inl rfl | exact Or.inr rfl) (pd_lst (pda_cons pd_non (pda_cons pd_int (pda_cons (pd_neg pd_int) (pda_cons pd_bl (pda_cons pd_bl (pda_cons pd_str (pda_cons (pd_lst pda_nil) (pda_cons (pd_tup (pda_cons pd_int pda_nil)) (pda_cons (pd_neg (pd_op opd_pow pd_int pd_int)) pda_nil))))))))))) (pds_seq (pds_ownD (i := 4) rfl sc__law_sizes_right.nd rfl (by first | exact Or.inl rfl | exact Or.inr rfl) (by rfl) T.m_dict (pd_lc (own := [(Str.ofString "_law_frame", 6)]) rfl sc__law_sizes_right.nd (pdi_data (pd_var 1)) (blkOk_by (by first | decide +kernel | rfl)) (fun _ _ _ _ _ => (pdg_name (i := 6) sc__law_sizes_right.nd rfl (by first | exact Or.inl rfl | exact Or.inr rfl))) (fun _ _ _ _ _ => pdts_nil) (fun _ _ _ _ _ => (pd_tup (pda_cons (pd_var 6) (pda_cons (pd_op opd_add pd_int (pd_call (w__law_draw T TI) (hr.mono (by omega)) (by rfl) T.g__law_draw T.F__law_draw.kp T.b__law_draw (pda_cons (pd_var 0) (pda_cons pd_int pda_nil)) (aCons_l (aCons_l aNil_l)))) pda_nil)))) (by decide))) (pds_seq (pds_set (i := 5) sc__law_sizes_right.nd rfl (by first | exact Or.inl rfl | exact Or.inr rfl) (pd_call (w__law_some T TI) (hr.mono (by omega)) (by rfl) T.g__law_some T.F__law_some.kp T.b__law_some (pda_cons (pd_var 0) (pda_cons (pd_lc (own := [(Str.ofString "_law_frame", 6), (Str.ofString "_law_count", 9)]) rfl sc__law_sizes_right.nd (pdi_data (pd_var 2)) (blkOk_by (by first | decide +kernel | rfl)) (fun _ _ _ _ _ => (pdg_tup rfl (pdgs_cons (pdg_name (i := 6) sc__law_sizes_right.nd rfl (by first | exact Or.inl rfl | exact Or.inr rfl)) (pdgs_cons (pdg_name (i := 9) sc__law_sizes_right.nd rfl (by first | exact Or.inl rfl | exact Or.inr rfl)) pdgs_nil)))) (fun _ _ _ _ _ => pdts_nil) (fun _ _ _ _ _ => (pd_var 6)) (by decide)) (pda_cons pd_int pda_nil))) (aCons_l (aCons_l (aCons_l aNil_l))))) (pds_seq (pds_for PassesOwn.never rfl (pdi_data (pd_var 5)) (pdg_name (i := 6) sc__law_sizes_right.nd rfl (by first | exact Or.inl rfl | exact Or.inr rfl)) (pds_one (pds_if (pdt_cmp (opd_eq (hu_n hr 64 (by decide))) (pd_call (w__law_draw T TI) (hr.mono (by omega)) (by rfl) T.g__law_draw T.F__law_draw.kp T.b__law_draw (pda_cons (pd_var 0) (pda_cons pd_int pda_nil)) (aCons_l (aCons_l aNil_l))) pd_int (nomark _)) (pds_one (pds_popD (i := 4) rfl (by first | exact Or.inl rfl | exact Or.inr (Or.inl rfl)) (pd_var 6) (by constructor <;> rfl))) (pds_one (pds_putD (i := 4) (hu_n hr 1 (by decide)) rfl (by first | exact Or.inl rfl | exact Or.inr (Or.inl rfl)) (pd_var 6) (pd_call (w__law_pick T TI) (hr.mono (by omega)) (by rfl) T.g__law_pick T.F__law_pick.kp T.b__law_pick (pda_cons (pd_var 0) (pda_cons (pd_var 3) pda_nil)) (aCons_l (aCons_l aNil_l)))))))) (pds_seq (pds_set (i := 7) sc__law_sizes_right.nd rfl (by first | exact Or.inl rfl | exact Or.inr rfl) (pd_ix ixd (fun _ _ => rfl) (pd_lc (own := [(Str.ofString "_law_frame", 6), (Str.ofString "_law_count", 9)]) rfl sc__law_sizes_right.nd (pdi_data (pd_var 2)) (blkOk_by (by first | decide +kernel | rfl)) (fun _ _ _ _ _ => (pdg_tup rfl (pdgs_cons (pdg_name (i := 6) sc__law_sizes_right.nd rfl (by first | exact Or.inl rfl | exact Or.inr rfl)) (pdgs_cons (pdg_name (i := 9) sc__law_sizes_right.nd rfl (by first | exact Or.inl rfl | exact Or.inr rfl)) pdgs_nil)))) (fun _ _ _ _ _ => (pdts_one (pdt_cmp (opd_in (hu_n hr 65 (by decide))) (pd_var 6) (pd_var 5) (by rfl)))) (fun _ _ _ _ _ => (pd_var 6)) (by decide)) pd_int)) (pds_frz (pds_one (pds_ret (pd_cmp (opd_eq (hu_n hr 64 (by decide))) (pd_lc (own := [(Str.ofString "_law_turn", 8)]) rfl sc__law_sizes_right.nd (pdi_range1 (by rfl) T.m_range (pda_cons pd_int pda_nil)) (blkOk_by (by first | decide +kernel | rfl)) (fun _ _ _ _ _ => (pdg_name (i := 8) sc__law_sizes_right.nd rfl (by first | exact Or.inl rfl | exact Or.inr rfl))) (fun _ _ _ _ _ => pdts_nil) (fun _ _ _ _ _ => (pd_told (k := 5) T.F__law_told (by rfl) T.g__law_told T.b__law_told sc__law_told rfl (.inl rfl) (w__law_told T TI 5) hTB hcode hmT hu (hr.mono (by omega)) (lamS_comp (LamX.lamS_by (by decide +kernel))) (by rfl) (fun _ _ _ _ _ => rfl) (fun A outer s H E f c' hr tk => (pdx_call (w_line_size T TI) (hr.mono (by omega)) tk (by rfl) T.g_line_size T.F_line_size.kp T.b_line_size (pda_cons (pd_var 2) (pda_cons (pd_var 4) pda_nil)) (aCons_l (aCons_l aNil_l)))))) (by decide)) (pd_newL (pdn_rep (pdn_lst (pda_cons (pd_callB (cd_repr hr TI.sys) (by rfl) T.m_repr (by decide +kernel) (pda_cons (pd_lst (pda_cons pd_str (pda_cons (pd_var 7) pda_nil))) pda_nil)) pda_nil)) pd_int)) (nomark _)))))))))))
theorem sc_count_of : FnScope [Str.ofString "word", Str.ofString "digit"] [Str.ofString "word"] (defScope s_count_of) := ⟨rfl, rfl, rfl, by decide +kernel, rfl, by decide +kernel, by decide +kernel⟩
def g_count_of : SG := (sSeq (sIf (bOr (asB (eOp eqD (eVar 0) (eC (.str (Str.ofString ""))))) (bOr (asB (eOp eqD (eOp ixD (eVar 0) (eC (.int 0))) (eC (.str (Str.ofString "0"))))) (bNot (asB (eCB (one allD) (aCons (eLc (iStrD (eVar 0)) (tName 1) bYes (eOp (inS false) (eVar 1) (eC k_DIGITS)) [1]) aNil)))))) (sRet (eC .none)) sNil) (sRet (eCB (one intS) (aCons (eVar 0) aNil))))
def f_count_of : List PyData → Pt → Option (PyData × Pt) := runF 2 g_count_of
theorem w_count_of (T : TX K mg) (TI : TBI P w T base) : FnD P w K mg base 1 T.a_count_of T.fd_count_of [Str.ofString "word"] f_count_of :=
  fn_of_body T.F_count_of sc_count_of (by decide) (fun cdv A outer s H E hr => (pds_seq (pds_if (PW.pt (pdw_or (pdt_cmp (opd_eq (hu_n hr 64 (by decide))) (pd_var 0) pd_str (nomark _)) (pdw_or (pdt_cmp (opd_eq (hu_n hr 64 (by decide))) (pd_ix ixd (fun _ _ => rfl) (pd_var 0) pd_int) pd_str (nomark _)) (pdw_or1 (pdt_not (pdt_val (pd_callB (cd_all rfl) (by rfl) T.m_all (by decide +kernel) (pda_cons (pd_lc (own := [(Str.ofString "digit", 1)]) rfl sc_count_of.nd (pdi_str (pd_var 0)) (blkOk_by (by first | decide +kernel | rfl)) (fun _ _ _ _ _ => (pdg_name (i := 1) sc_count_of.nd rfl (by first | exact Or.inl rfl | exact Or.inr rfl))) (fun _ _ _ _ _ => pdts_nil) (fun _ _ _ _ _ => (pd_cmp opd_inS (pd_var 1) (pd_cst (by rfl) T.k_DIGITS) (by rfl))) (by decide)) pda_nil)))))))) (pds_one (pds_ret pd_non)) pds_nil) (pds_one (pds_ret (pd_callTy cd_intS (by rfl) T.m_int (by decide +kernel) (pda_cons (pd_var 0) pda_nil))))))
theorem sc_part_of : FnScope [Str.ofString "text", Str.ofString "words"] [Str.ofString "text"] (defScope s_part_of) := ⟨rfl, rfl, rfl, by decide +kernel, rfl, by decide +kernel, by decide +kernel⟩
def g_part_of : SG := (sSeq (sSet 1 (eOp splitD (eVar 0) (eC (.str (Str.ofString " "))))) (sSeq (sIf (bOr (asB (eOp neD (eCB (one lenD) (aCons (eVar 1) aNil)) (eC (.int 2)))) (bOr (bNot (asB (eCall f_is_name (aCons (eOp ixD (eVar 1) (eC (.int 1))) aNil)))) (asB (eOp isD (eCall f_count_of (aCons (eOp ixD (eVar 1) (eC (.int 0))) aNil)) (eC .none))))) (sRet (eC .none)) sNil) (sRet (eTup (aCons (eOp ixD (eVar 1) (eC (.int 1))) (aCons (eCall f_count_of (aCons (eOp ixD (eVar 1) (eC (.int 0))) aNil)) aNil))))))
def f_part_of : List PyData → Pt → Option (PyData × Pt) := runF 2 g_part_of
theorem w_part_of (T : TX K mg) (TI : TBI P w T base) : FnD P w K mg base 2 T.a_part_of T.fd_part_of [Str.ofString "text"] f_part_of :=
  fn_of_body T.F_part_of sc_part_of (by decide) (fun cdv A outer s H E hr => (pds_seq (pds_set (i := 1) sc_part_of.nd rfl (by first | exact Or.inl rfl | exact Or.inr rfl) (pd_split (pd_var 0) pd_str)) (pds_seq (pds_if (PW.pt (pdw_or (pdt_cmp (opd_ne (hu_n hr 64 (by decide))) (pd_callB cd_len (by rfl) T.m_len (by decide +kernel) (pda_cons (pd_var 1) pda_nil)) pd_int (nomark _)) (pdw_or (pdt_not (pdt_val (pd_call (w_is_name T TI) (hr.mono (by omega)) (by rfl) T.g_is_name T.F_is_name.kp T.b_is_name (pda_cons (pd_ix ixd (fun _ _ => rfl) (pd_var 1) pd_int) pda_nil) (aCons_l aNil_l)))) (pdw_or1 (pdt_cmp opd_is (pd_call (w_count_of T TI) (hr.mono (by omega)) (by rfl) T.g_count_of T.F_count_of.kp T.b_count_of (pda_cons (pd_ix ixd (fun _ _ => rfl) (pd_var 1) pd_int) pda_nil) (aCons_l aNil_l)) pd_non (nomark _)))))) (pds_one (pds_ret pd_non)) pds_nil) (pds_one (pds_ret (pd_tup (pda_cons (pd_ix ixd (fun _ _ => rfl) (pd_var 1) pd_int) (pda_cons (pd_call (w_count_of T TI) (hr.mono (by omega)) (by rfl) T.g_count_of T.F_count_of.kp T.b_count_of (pda_cons (pd_ix ixd (fun _ _ => rfl) (pd_var 1) pd_int) pda_nil) (aCons_l aNil_l)) pda_nil))))))))
theorem sc_parse_line : FnScope [Str.ofString "text", Str.ofString "parts", Str.ofString "part"] [Str.ofString "text"] (defScope s_parse_line) := ⟨rfl, rfl, rfl, by decide +kernel, rfl, by decide +kernel, by decide +kernel⟩
def g_parse_line : SG := (sSeq (sIf (bNot (asB (eUn (isiD "str") (eVar 0)))) (sRaise (Str.ofString "InvalidText") [Str.ofString "line"] (aCons (eC (.int 0)) aNil)) sNil) (sSeq (sIf (asB (eOp eqD (eVar 0) (eC k_NOTHING))) (sRet (eTup aNil)) sNil) (sSeq (sSet 1 (eLc (iOf (eOp splitD (eVar 0) (eC k_JOINER))) (tName 2) bYes (eCall f_part_of (aCons (eVar 2) aNil)) [2])) (sSeq (sIf (bNot (asB (eCall f_is_line (aCons (eCB (one tupleD) (aCons (eVar 1) aNil)) aNil)))) (sRaise (Str.ofString "InvalidText") [Str.ofString "line"] (aCons (eC (.int 1)) aNil)) sNil) (sRet (eCB (one tupleD) (aCons (eVar 1) aNil)))))))
def f_parse_line : List PyData → Pt → Option (PyData × Pt) := runF 3 g_parse_line
theorem w_parse_line (T : TX K mg) (TI : TBI P w T base) : FnX P w K mg base 4 T.a_parse_line T.fd_parse_line [Str.ofString "text"] f_parse_line :=
  fn_of_bodyX T.F_parse_line sc_parse_line (by decide) (fun cdv A outer s H E hr tk pw => (pdsx_seq (pdsx_if (pdt_not (pdt_val (pd_isi (by rfl) T.m_isinstance (by rfl) T.m_str (by decide +kernel) (pd_var 0)))) (pdsx_one (pdsx_raise1 rfl tk TI.e_InvalidText TI.k_InvalidText (raises_own TI.r_InvalidText TI.t_InvalidText) hr (pda_cons pd_int pda_nil) (by rfl))) pdsx_nil) (pdsx_seq (pdsx_of (pds_if (pdt_cmp (opd_eq (hu_n hr 64 (by decide))) (pd_var 0) (pd_cst (by rfl) T.k_NOTHING) (nomark _)) (pds_one (pds_ret (pd_tup pda_nil))) pds_nil)) (pdsx_seq (pdsx_of (pds_setLc (i := 1) (own := [(Str.ofString "part", 2)]) rfl sc_parse_line.nd rfl rfl (sw_true rfl rfl rfl (by decide +kernel)) (pdi_data (pd_split (pd_var 0) (pd_cst (by rfl) T.k_JOINER))) (blkOk_by (by first | decide +kernel | rfl)) (fun _ _ _ _ _ => (pdg_name (i := 2) sc_parse_line.nd rfl (by first | exact Or.inl rfl | exact Or.inr rfl))) (fun _ _ _ _ _ => pdts_nil) (fun _ _ _ _ _ => (pd_call (w_part_of T TI) (hr.mono (by omega)) (by rfl) T.g_part_of T.F_part_of.kp T.b_part_of (pda_cons (pd_var 2) pda_nil) (aCons_l aNil_l))) (by decide))) (pdsx_seq (pdsx_if (pdt_not (pdt_val (pd_call (w_is_line T TI) (hr.mono (by omega)) (by rfl) T.g_is_line T.F_is_line.kp T.b_is_line (pda_cons (pd_callTy cd_tuple (by rfl) T.m_tuple (by decide +kernel) (pda_cons (pd_var 1) pda_nil)) pda_nil) (aCons_l aNil_l)))) (pdsx_one (pdsx_raise1 rfl tk TI.e_InvalidText TI.k_InvalidText (raises_own TI.r_InvalidText TI.t_InvalidText) hr (pda_cons pd_int pda_nil) (by rfl))) pdsx_nil) (pdsx_one (pdsx_of (pds_ret (pd_callTy cd_tuple (by rfl) T.m_tuple (by decide +kernel) (pda_cons (pd_var 1) pda_nil))))))))))
def sub__law_read (c d : Str) : Bool := (c == Str.ofString "InvalidText" && d == Str.ofString "InvalidText")
def rs__law_read : List Str := [Str.ofString "InvalidText"]
def hl__law_read : List (Str × HF) := [(Str.ofString "InvalidText", hRep (Str.ofString "InvalidText") (Str.ofString "text") (Str.ofString "line"))]
theorem sc__law_read : FnScope [Str.ofString "_law_given", Str.ofString "_law_e"] [Str.ofString "_law_given"] (defScope s__law_read) := ⟨rfl, rfl, rfl, by decide +kernel, rfl, by decide +kernel, by decide +kernel⟩
def g__law_read : SG := (sTryR (Str.ofString "read") (eCall f_parse_line (aCons (eVar 0) aNil)) sub__law_read rs__law_read hl__law_read)
def f__law_read : List PyData → Pt → Option (PyData × Pt) := runF 2 g__law_read
theorem w__law_read (T : TX K mg) (TI : TBI P w T base) : FnD P w K mg base 5 T.a__law_read T.fd__law_read [Str.ofString "_law_given"] f__law_read :=
  fn_of_body T.F__law_read sc__law_read (by decide) (fun cdv A outer s H E hr => (pds_one (pds_tryR (ie := 1) rfl rfl sc__law_read.nd rfl rfl hr TI.sys (by rfl) T.m_repr (by intro c hc q hq; simp only [rs__law_read, List.mem_cons, List.not_mem_nil, or_false] at hc; simp only [hl__law_read, List.mem_cons, List.not_mem_nil, or_false] at hq; rcases hc with rfl <;> rcases hq with rfl <;> (first | exact TI.xm_InvalidText_InvalidText)) (fun W pn xe tk => (pdx_call (w_parse_line T TI) (hr.mono (by omega)) tk (by rfl) T.g_parse_line T.F_parse_line.kp T.b_parse_line (pda_cons (pd_var 0) pda_nil) (aCons_l aNil_l))) (HdsR.cons ⟨by rfl, by decide, .inl TI.g_InvalidText⟩ (su_rep TI.xf_InvalidText TI.nf_InvalidText_line hr.gd (Nat.lt_of_le_of_lt (Nat.add_le_add_right (Nat.le_add_right _ _) 200) hr.un) TI.sys (by rfl) T.m_repr rfl rfl) HdsR.nil))))
theorem sc__law_texts_right : FnScope [Str.ofString "_law_pot_here", Str.ofString "_law_frames", Str.ofString "_law_one", Str.ofString "_law_text", Str.ofString "_law_odd", Str.ofString "_law_told_here", Str.ofString "_law_frame", Str.ofString "_law_count", Str.ofString "_law_wrong", Str.ofString "_law_none", Str.ofString "_law_name_here", Str.ofString "_law_number"] [Str.ofString "_law_pot_here", Str.ofString "_law_frames"] (defScope s__law_texts_right) := ⟨rfl, rfl, rfl, by decide +kernel, rfl, by decide +kernel, by decide +kernel⟩
def g__law_texts_right : SG := (sSeq (sSet 2 (eCall f__law_line (aCons (eVar 0) (aCons (eVar 1) aNil)))) (sSeq (sAsg (tTup 2 (tlCons (tName 6) (tlCons (tName 7) tlNil))) (eOp ixD (eVar 2) (eC (.int 0)))) (sSeq (sSet 3 (eOp joinD (eC (.str (Str.ofString " + "))) (eLc (iOf (eVar 2)) (tTup 2 (tlCons (tName 10) (tlCons (tName 11) tlNil))) bYes (eOp addD (eOp addD (eCB (one strI) (aCons (eVar 11) aNil)) (eC (.str (Str.ofString " ")))) (eVar 10)) [10, 11]))) (sSeq (sOwnN 4 (aFit (aCons (eOp addD (eC (.str (Str.ofString " "))) (eVar 3)) (aCons (eOp addD (eVar 3) (eC (.str (Str.ofString " ")))) (aCons (eOp addD (eVar 3) (eC (.str (Str.ofString "\n")))) (aCons (eOp addD (eVar 3) (eC (.str (Str.ofString " +")))) (aCons (eOp addD (eVar 3) (eC (.str (Str.ofString " + ")))) (aCons (eOp addD (eC (.str (Str.ofString "+ "))) (eVar 3)) (aCons (eOp addD (eC (.str (Str.ofString "0"))) (eVar 3)) (aCons (eOp addD (eVar 3) (eC (.str (Str.ofString " + 0")))) (aCons (eC (.str (Str.ofString "1"))) aNil))))))))))) (sSeq (sOwnN 4 (aCat (aOwn 4) (aFit (aCons (eOp addD (eOp addD (eVar 3) (eC (.str (Str.ofString " + ")))) (eVar 3)) (aCons (eUn upperD (eVar 3)) (aCons (eUn (replD (Str.ofString " ") (Str.ofString "  ")) (eVar 3)) (aCons (eOp addD (eC (.str (Str.ofString "0 "))) (eVar 6)) (aCons (eVar 6) (aCons (eC (.str (Str.ofString ""))) (aCons (eC (.str (Str.ofString " "))) (aCons (eC (.str (Str.ofString "00"))) aNil))))))))))) (sSeq (sOwnN 4 (aCat (aOwn 4) (aFit (aCons (eOp addD (eC (.str (Str.ofString "0 + "))) (eVar 3)) (aCons (eOp addD (eC (.str (Str.ofString "-1 "))) (eVar 6)) (aCons (eC (.str (Str.ofString "1 abcdefghi"))) (aCons (eC (.str (Str.ofString "1 take"))) (aCons (eOp addD (eOp addD (eOp addD (eOp addD (eC (.str (Str.ofString "1 "))) (eVar 6)) (eC (.str (Str.ofString "+1 ")))) (eVar 6)) (eC (.str (Str.ofString "z")))) aNil)))))))) (sSeq (sOwnN 4 (aCat (aOwn 4) (aFit (aCons (eOp addD (eC (.str (Str.ofString "1_0 "))) (eVar 6)) (aCons (eOp addD (eVar 6) (eC (.str (Str.ofString " 1")))) aNil))))) (sSeq (sIf (asB (eOp gtI (eCB (one lenD) (aCons (eVar 2) aNil)) (eC (.int 1)))) (sApp 4 (eOp joinD (eC (.str (Str.ofString " + "))) (eLc (iOf (eUn revT (eVar 2))) (tTup 2 (tlCons (tName 10) (tlCons (tName 11) tlNil))) bYes (eOp addD (eOp addD (eCB (one strI) (aCons (eVar 11) aNil)) (eC (.str (Str.ofString " ")))) (eVar 10)) [10, 11]))) sNil) (sFrz 4 (sSeq (sPar 8 9 (aCons (eCall f__law_pick (aCons (eVar 0) (aCons (eVar 4) aNil))) (aCons (eCall f__law_pick (aCons (eVar 0) (aCons (eLst (aCons (eC .none) (aCons (eC (.int 0)) (aCons (eC (.int 1)) (aCons (eC (.bool true)) (aCons (eLst aNil) (aCons (eTup (aCons (eC (.str (Str.ofString "0"))) aNil)) (aCons (eVar 2) (aCons (eLst (aCons (eC (.str (Str.ofString "0"))) aNil)) (aCons (eC (.dict [])) aNil)))))))))) aNil))) aNil))) (sSeq (sSet 5 (eLst (aCons (eCall f__law_read (aCons (eVar 3) aNil)) (aCons (eCall f__law_read (aCons (eVar 8) aNil)) (aCons (eCall f__law_read (aCons (eVar 9) aNil)) (aCons (eCall f__law_read (aCons (eC (.str (Str.ofString "0"))) aNil)) aNil)))))) (sRet (eOp eqD (eVar 5) (eLst (aCons (eCB (one reprD) (aCons (eLst (aCons (eC (.str (Str.ofString "read"))) (aCons (eVar 2) aNil))) aNil)) (aCons (eCB (one reprD) (aCons (eLst (aCons (eC (.str (Str.ofString "text"))) (aCons (eC (.int 1)) aNil))) aNil)) (aCons (eCB (one reprD) (aCons (eLst (aCons (eC (.str (Str.ofString "text"))) (aCons (eC (.int 0)) aNil))) aNil)) (aCons (eCB (one reprD) (aCons (eLst (aCons (eC (.str (Str.ofString "read"))) (aCons (eTup aNil) aNil))) aNil)) aNil))))))))))))))))))
def f__law_texts_right : List PyData → Pt → Option (PyData × Pt) := runF 12 g__law_texts_right
theorem w__law_texts_right (T : TX K mg) (TI : TBI P w T base) : FnD P w K mg base 6 T.a__law_texts_right T.fd__law_texts_right [Str.ofString "_law_pot_here", Str.ofString "_law_frames"] f__law_texts_right :=
  fn_of_body T.F__law_texts_right sc__law_texts_right (by decide) (fun cdv A outer s H E hr => (pds_seq (pds_set (i := 2) sc__law_texts_right.nd rfl (by first | exact Or.inl rfl | exact Or.inr rfl) (pd_call (w__law_line T TI) (hr.mono (by omega)) (by rfl) T.g__law_line T.F__law_line.kp T.b__law_line (pda_cons (pd_var 0) (pda_cons (pd_var 1) pda_nil)) (aCons_l (aCons_l aNil_l)))) (pds_seq (pds_asg (pdg_tup rfl (pdgs_cons (pdg_name (i := 6) sc__law_texts_right.nd rfl (by first | exact Or.inl rfl | exact Or.inr rfl)) (pdgs_cons (pdg_name (i := 7) sc__law_texts_right.nd rfl (by first | exact Or.inl rfl | exact Or.inr rfl)) pdgs_nil))) (pd_ix ixd (fun _ _ => rfl) (pd_var 2) pd_int)) (pds_seq (pds_set (i := 3) sc__law_texts_right.nd rfl (by first | exact Or.inl rfl | exact Or.inr rfl) (pd_join pd_str (pd_lc (own := [(Str.ofString "_law_name_here", 10), (Str.ofString "_law_number", 11)]) rfl sc__law_texts_right.nd (pdi_data (pd_var 2)) (blkOk_by (by first | decide +kernel | rfl)) (fun _ _ _ _ _ => (pdg_tup rfl (pdgs_cons (pdg_name (i := 10) sc__law_texts_right.nd rfl (by first | exact Or.inl rfl | exact Or.inr rfl)) (pdgs_cons (pdg_name (i := 11) sc__law_texts_right.nd rfl (by first | exact Or.inl rfl | exact Or.inr rfl)) pdgs_nil)))) (fun _ _ _ _ _ => pdts_nil) (fun _ _ _ _ _ => (pd_op opd_add (pd_op opd_add (pd_callTy cd_str (by rfl) T.m_str (by decide +kernel) (pda_cons (pd_var 11) pda_nil)) pd_str) (pd_var 10))) (by decide)))) (pds_seq (pds_ownN (i := 4) sc__law_texts_right.nd rfl (by first | exact Or.inl rfl | exact Or.inr rfl) (pdn_lst (pda_cons (pd_op opd_add pd_str (pd_var 3)) (pda_cons (pd_op opd_add (pd_var 3) pd_str) (pda_cons (pd_op opd_add (pd_var 3) pd_str) (pda_cons (pd_op opd_add (pd_var 3) pd_str) (pda_cons (pd_op opd_add (pd_var 3) pd_str) (pda_cons (pd_op opd_add pd_str (pd_var 3)) (pda_cons (pd_op opd_add pd_str (pd_var 3)) (pda_cons (pd_op opd_add (pd_var 3) pd_str) (pda_cons pd_str pda_nil))))))))))) (pds_seq (pds_ownN (i := 4) sc__law_texts_right.nd rfl (by first | exact Or.inl rfl | exact Or.inr rfl) (pdn_cat (pdl_own 4) (pdl_new (pdn_lst (pda_consT (pd1_opL opd_add (pd1_opR opd_add (pd_var 3) pd1_str) (pd_var 3)) (pdat_cons (pdt1_of (pd_upper (pd_var 3))) (pdat_cons (pdt_repl (pd_var 3)) (pdat_of (pda_cons (pd_op opd_add pd_str (pd_var 6)) (pda_cons (pd_var 6) (pda_cons pd_str (pda_cons pd_str (pda_cons pd_str pda_nil))))))))))))) (pds_seq (pds_ownN (i := 4) sc__law_texts_right.nd rfl (by first | exact Or.inl rfl | exact Or.inr rfl) (pdn_cat (pdl_own 4) (pdl_new (pdn_lst (pda_cons (pd_op opd_add pd_str (pd_var 3)) (pda_cons (pd_op opd_add pd_str (pd_var 6)) (pda_cons pd_str (pda_cons pd_str (pda_cons (pd_op opd_add (pd_op opd_add (pd_op opd_add (pd_op opd_add pd_str (pd_var 6)) pd_str) (pd_var 6)) pd_str) pda_nil))))))))) (pds_seq (pds_ownN (i := 4) sc__law_texts_right.nd rfl (by first | exact Or.inl rfl | exact Or.inr rfl) (pdn_cat (pdl_own 4) (pdl_new (pdn_lst (pda_cons (pd_op opd_add pd_str (pd_var 6)) (pda_cons (pd_op opd_add (pd_var 6) pd_str) pda_nil)))))) (pds_seq (pds_if (pdt_cmp opd_gtI (pd_callB cd_len (by rfl) T.m_len (by decide +kernel) (pda_cons (pd_var 2) pda_nil)) pd_int (nomark _)) (pds_one (pds_app (i := 4) rfl (by first | exact Or.inl rfl | exact Or.inr (Or.inl rfl)) (pd_join pd_str (pd_lc (own := [(Str.ofString "_law_name_here", 10), (Str.ofString "_law_number", 11)]) rfl sc__law_texts_right.nd (pdi_data (pd_revT (pd_var 2))) (blkOk_by (by first | decide +kernel | rfl)) (fun _ _ _ _ _ => (pdg_tup rfl (pdgs_cons (pdg_name (i := 10) sc__law_texts_right.nd rfl (by first | exact Or.inl rfl | exact Or.inr rfl)) (pdgs_cons (pdg_name (i := 11) sc__law_texts_right.nd rfl (by first | exact Or.inl rfl | exact Or.inr rfl)) pdgs_nil)))) (fun _ _ _ _ _ => pdts_nil) (fun _ _ _ _ _ => (pd_op opd_add (pd_op opd_add (pd_callTy cd_str (by rfl) T.m_str (by decide +kernel) (pda_cons (pd_var 11) pda_nil)) pd_str) (pd_var 10))) (by decide))))) pds_nil) (pds_frz (pds_seq (pds_par (i := 8) (j := 9) rfl sc__law_texts_right.nd rfl rfl (by decide) rfl rfl (pda_cons (pd_call (w__law_pick T TI) (hr.mono (by omega)) (by rfl) T.g__law_pick T.F__law_pick.kp T.b__law_pick (pda_cons (pd_var 0) (pda_cons (pd_var 4) pda_nil)) (aCons_l (aCons_l aNil_l))) (pda_cons (pd_call (w__law_pick T TI) (hr.mono (by omega)) (by rfl) T.g__law_pick T.F__law_pick.kp T.b__law_pick (pda_cons (pd_var 0) (pda_cons (pd_lst (pda_cons pd_non (pda_cons pd_int (pda_cons pd_int (pda_cons pd_bl (pda_cons (pd_lst pda_nil) (pda_cons (pd_tup (pda_cons pd_str pda_nil)) (pda_cons (pd_var 2) (pda_cons (pd_lst (pda_cons pd_str pda_nil)) (pda_cons pd_emp pda_nil)))))))))) pda_nil)) (aCons_l (aCons_l aNil_l))) pda_nil)) (by rfl)) (pds_seq (pds_set (i := 5) sc__law_texts_right.nd rfl (by first | exact Or.inl rfl | exact Or.inr rfl) (pd_lst (pda_cons (pd_call (w__law_read T TI) (hr.mono (by omega)) (by rfl) T.g__law_read T.F__law_read.kp T.b__law_read (pda_cons (pd_var 3) pda_nil) (aCons_l aNil_l)) (pda_cons (pd_call (w__law_read T TI) (hr.mono (by omega)) (by rfl) T.g__law_read T.F__law_read.kp T.b__law_read (pda_cons (pd_var 8) pda_nil) (aCons_l aNil_l)) (pda_cons (pd_call (w__law_read T TI) (hr.mono (by omega)) (by rfl) T.g__law_read T.F__law_read.kp T.b__law_read (pda_cons (pd_var 9) pda_nil) (aCons_l aNil_l)) (pda_cons (pd_call (w__law_read T TI) (hr.mono (by omega)) (by rfl) T.g__law_read T.F__law_read.kp T.b__law_read (pda_cons pd_str pda_nil) (aCons_l aNil_l)) pda_nil)))))) (pds_one (pds_ret (pd_cmp (opd_eq (hu_n hr 64 (by decide))) (pd_var 5) (pd_lst (pda_cons (pd_callB (cd_repr hr TI.sys) (by rfl) T.m_repr (by decide +kernel) (pda_cons (pd_lst (pda_cons pd_str (pda_cons (pd_var 2) pda_nil))) pda_nil)) (pda_cons (pd_callB (cd_repr hr TI.sys) (by rfl) T.m_repr (by decide +kernel) (pda_cons (pd_lst (pda_cons pd_str (pda_cons pd_int pda_nil))) pda_nil)) (pda_cons (pd_callB (cd_repr hr TI.sys) (by rfl) T.m_repr (by decide +kernel) (pda_cons (pd_lst (pda_cons pd_str (pda_cons pd_int pda_nil))) pda_nil)) (pda_cons (pd_callB (cd_repr hr TI.sys) (by rfl) T.m_repr (by decide +kernel) (pda_cons (pd_lst (pda_cons pd_str (pda_cons (pd_tup pda_nil) pda_nil))) pda_nil)) pda_nil))))) (nomark _))))))))))))))))
theorem sc__law_names_right : FnScope [Str.ofString "_law_pot_here", Str.ofString "_law_word", Str.ofString "_law_odd", Str.ofString "_law_told_here"] [Str.ofString "_law_pot_here"] (defScope s__law_names_right) := ⟨rfl, rfl, rfl, by decide +kernel, rfl, by decide +kernel, by decide +kernel⟩
def g__law_names_right : SG := (sSeq (sSet 1 (eCall f__law_name (aCons (eVar 0) (aCons (eLst aNil) aNil)))) (sSeq (sSet 2 (eLst (aCons (eC (.str (Str.ofString ""))) (aCons (eUn upperD (eVar 1)) (aCons (eOp addD (eVar 1) (eC (.str (Str.ofString "1")))) (aCons (eOp addD (eVar 1) (eC (.str (Str.ofString " ")))) (aCons (eOp addD (eC (.str (Str.ofString " "))) (eVar 1)) (aCons (eOp addD (eVar 1) (eC (.str (Str.ofString "_")))) (aCons (eC (.str (Str.ofString "abcdefghi"))) (aCons (eOp addD (eVar 1) (eC (.str (Str.ofString "\n")))) (aCons (eC (.int 1)) (aCons (eC .none) aNil)))))))))))) (sSeq (sSet 2 (eOp addD (eVar 2) (eLst (aCons (eC (.bool true)) (aCons (eTup (aCons (eVar 1) aNil)) (aCons (eLst (aCons (eVar 1) aNil)) (aCons (eC (.dict [])) (aCons (eCall f__law_pick (aCons (eVar 0) (aCons (eCall f__law_words aNil) aNil))) (aCons (eOp addD (eVar 1) (eC (.str (Str.ofString "-")))) (aCons (eC (.str (Str.ofString "aB"))) (aCons (eC (.str (Str.ofString "-"))) aNil))))))))))) (sSeq (sSet 3 (eLst (aCons (eCall f_is_name (aCons (eVar 1) aNil)) (aCons (eCall f_is_name (aCons (eCall f__law_pick (aCons (eVar 0) (aCons (eVar 2) aNil))) aNil)) (aCons (eCallK f_is_name [0] (aCons (eC (.str (Str.ofString "abcdefgh"))) aNil)) (aCons (eCall f_is_name (aCons (eC (.str (Str.ofString "callx"))) aNil)) (aCons (eCall f_is_name (aCons (eC (.str (Str.ofString "e"))) aNil)) aNil))))))) (sRet (eAndV (eOp eqD (eCB (one reprD) (aCons (eVar 3) aNil)) (eCB (one reprD) (aCons (eLst (aCons (eC (.bool true)) (aCons (eC (.bool false)) (aCons (eC (.bool true)) (aCons (eC (.bool true)) (aCons (eC (.bool true)) aNil)))))) aNil))) (eOp eqD (eCB (one reprD) (aCons (eC k_RESERVED) aNil)) (eCB (one reprD) (aCons (eCB (one tupleD) (aCons (eCB (one sortSD) (aCons (eCall f__law_words aNil) aNil)) aNil)) aNil)))))))))
def f__law_names_right : List PyData → Pt → Option (PyData × Pt) := runF 4 g__law_names_right
theorem w__law_names_right (T : TX K mg) (TI : TBI P w T base) : FnD P w K mg base 3 T.a__law_names_right T.fd__law_names_right [Str.ofString "_law_pot_here"] f__law_names_right :=
  fn_of_body T.F__law_names_right sc__law_names_right (by decide) (fun cdv A outer s H E hr => (pds_seq (pds_set (i := 1) sc__law_names_right.nd rfl (by first | exact Or.inl rfl | exact Or.inr rfl) (pd_call (w__law_name T TI) (hr.mono (by omega)) (by rfl) T.g__law_name T.F__law_name.kp T.b__law_name (pda_cons (pd_var 0) (pda_cons (pd_lst pda_nil) pda_nil)) (aCons_l (aCons_l aNil_l)))) (pds_seq (pds_set (i := 2) sc__law_names_right.nd rfl (by first | exact Or.inl rfl | exact Or.inr rfl) (pd_lst (pda_cons pd_str (pda_cons (pd_upper (pd_var 1)) (pda_cons (pd_op opd_add (pd_var 1) pd_str) (pda_cons (pd_op opd_add (pd_var 1) pd_str) (pda_cons (pd_op opd_add pd_str (pd_var 1)) (pda_cons (pd_op opd_add (pd_var 1) pd_str) (pda_cons pd_str (pda_cons (pd_op opd_add (pd_var 1) pd_str) (pda_cons pd_int (pda_cons pd_non pda_nil)))))))))))) (pds_seq (pds_set (i := 2) sc__law_names_right.nd rfl (by first | exact Or.inl rfl | exact Or.inr rfl) (pd_op opd_add (pd_var 2) (pd_lst (pda_cons pd_bl (pda_cons (pd_tup (pda_cons (pd_var 1) pda_nil)) (pda_cons (pd_lst (pda_cons (pd_var 1) pda_nil)) (pda_cons pd_emp (pda_cons (pd_call (w__law_pick T TI) (hr.mono (by omega)) (by rfl) T.g__law_pick T.F__law_pick.kp T.b__law_pick (pda_cons (pd_var 0) (pda_cons (pd_call0 (w__law_words T TI) (hr.mono (by omega)) (by rfl) T.g__law_words T.F__law_words.kp T.b__law_words) pda_nil)) (aCons_l (aCons_l aNil_l))) (pda_cons (pd_op opd_add (pd_var 1) pd_str) (pda_cons pd_str (pda_cons pd_str pda_nil))))))))))) (pds_seq (pds_set (i := 3) sc__law_names_right.nd rfl (by first | exact Or.inl rfl | exact Or.inr rfl) (pd_lst (pda_cons (pd_call (w_is_name T TI) (hr.mono (by omega)) (by rfl) T.g_is_name T.F_is_name.kp T.b_is_name (pda_cons (pd_var 1) pda_nil) (aCons_l aNil_l)) (pda_cons (pd_call (w_is_name T TI) (hr.mono (by omega)) (by rfl) T.g_is_name T.F_is_name.kp T.b_is_name (pda_cons (pd_call (w__law_pick T TI) (hr.mono (by omega)) (by rfl) T.g__law_pick T.F__law_pick.kp T.b__law_pick (pda_cons (pd_var 0) (pda_cons (pd_var 2) pda_nil)) (aCons_l (aCons_l aNil_l))) pda_nil) (aCons_l aNil_l)) (pda_cons (pd_callK (ks := [Str.ofString "value"]) (is := [0]) (w_is_name T TI) (hr.mono (by omega)) (by rfl) T.g_is_name T.F_is_name.kp T.kb1 (pdk_cons pd_str pdk_nil) (aCons_l aNil_l) (permL_len rfl)) (pda_cons (pd_call (w_is_name T TI) (hr.mono (by omega)) (by rfl) T.g_is_name T.F_is_name.kp T.b_is_name (pda_cons pd_str pda_nil) (aCons_l aNil_l)) (pda_cons (pd_call (w_is_name T TI) (hr.mono (by omega)) (by rfl) T.g_is_name T.F_is_name.kp T.b_is_name (pda_cons pd_str pda_nil) (aCons_l aNil_l)) pda_nil))))))) (pds_one (pds_ret (pd_and (pd_cmp (opd_eq (hu_n hr 64 (by decide))) (pd_callB (cd_repr hr TI.sys) (by rfl) T.m_repr (by decide +kernel) (pda_cons (pd_var 3) pda_nil)) (pd_callB (cd_repr hr TI.sys) (by rfl) T.m_repr (by decide +kernel) (pda_cons (pd_lst (pda_cons pd_bl (pda_cons pd_bl (pda_cons pd_bl (pda_cons pd_bl (pda_cons pd_bl pda_nil)))))) pda_nil)) (nomark _)) (pd_one (pd_cmp (opd_eq (hu_n hr 64 (by decide))) (pd_callB (cd_repr hr TI.sys) (by rfl) T.m_repr (by decide +kernel) (pda_cons (pd_cst (by rfl) T.k_RESERVED) pda_nil)) (pd_callB (cd_repr hr TI.sys) (by rfl) T.m_repr (by decide +kernel) (pda_cons (pd_callTy cd_tuple (by rfl) T.m_tuple (by decide +kernel) (pda_cons (pd_callB cd_sortS (by rfl) T.m_sorted (by decide +kernel) (pda_cons (pd_call0 (w__law_words T TI) (hr.mono (by omega)) (by rfl) T.g__law_words T.F__law_words.kp T.b__law_words) pda_nil)) pda_nil)) pda_nil)) (nomark _)))))))))))
theorem sc__law_right : FnScope [Str.ofString "_law_pot_here", Str.ofString "_law_frames", Str.ofString "_law_turn", Str.ofString "_law_word"] [Str.ofString "_law_pot_here"] (defScope s__law_right) := ⟨rfl, rfl, rfl, by decide +kernel, rfl, by decide +kernel, by decide +kernel⟩
def g__law_right : SG := (sSeq (sSet 1 (eCall f__law_names (aCons (eVar 0) (aCons (eOp addD (eC (.int 1)) (eCall f__law_draw (aCons (eVar 0) (aCons (eC (.int 6)) aNil)))) (aCons (eLst aNil) aNil))))) (sSeq (sFor (iRange (aCons (eC (.int 12)) aNil)) (tName 2) (sSeq (sIf (bOr (bNot (asB (eCall f__law_lines_right (aCons (eVar 0) (aCons (eVar 1) aNil))))) (bNot (asB (eCall f__law_sizes_right (aCons (eVar 0) (aCons (eVar 1) aNil)))))) (sRet (eC (.bool false))) sNil) (sIf (bOr (bNot (asB (eCall f__law_texts_right (aCons (eVar 0) (aCons (eVar 1) aNil))))) (bNot (asB (eCall f__law_names_right (aCons (eVar 0) aNil))))) (sRet (eC (.bool false))) sNil))) (sRet (eCB (one allD) (aCons (eLc (iOf (eCall f__law_words aNil)) (tName 3) bYes (eNotV (eCall f_is_name (aCons (eVar 3) aNil))) [3]) aNil)))))
def f__law_right : List PyData → Pt → Option (PyData × Pt) := runF 4 g__law_right
theorem w__law_right (T : TX K mg) (TI : TBI P w T base) : FnD P w K mg base 9 T.a__law_right T.fd__law_right [Str.ofString "_law_pot_here"] f__law_right :=
  fn_of_body T.F__law_right sc__law_right (by decide) (fun cdv A outer s H E hr => (pds_seq (pds_set (i := 1) sc__law_right.nd rfl (by first | exact Or.inl rfl | exact Or.inr rfl) (pd_call (w__law_names T TI) (hr.mono (by omega)) (by rfl) T.g__law_names T.F__law_names.kp T.b__law_names (pda_cons (pd_var 0) (pda_cons (pd_op opd_add pd_int (pd_call (w__law_draw T TI) (hr.mono (by omega)) (by rfl) T.g__law_draw T.F__law_draw.kp T.b__law_draw (pda_cons (pd_var 0) (pda_cons pd_int pda_nil)) (aCons_l (aCons_l aNil_l)))) (pda_cons (pd_lst pda_nil) pda_nil))) (aCons_l (aCons_l (aCons_l aNil_l))))) (pds_seq (pds_for PassesOwn.never rfl (pdi_range1 (by rfl) T.m_range (pda_cons pd_int pda_nil)) (pdg_name (i := 2) sc__law_right.nd rfl (by first | exact Or.inl rfl | exact Or.inr rfl)) (pds_seq (pds_if (PW.pt (pdw_or (pdt_not (pdt_val (pd_call (w__law_lines_right T TI) (hr.mono (by omega)) (by rfl) T.g__law_lines_right T.F__law_lines_right.kp T.b__law_lines_right (pda_cons (pd_var 0) (pda_cons (pd_var 1) pda_nil)) (aCons_l (aCons_l aNil_l))))) (pdw_or1 (pdt_not (pdt_val (pd_call (w__law_sizes_right T TI) (hr.mono (by omega)) (by rfl) T.g__law_sizes_right T.F__law_sizes_right.kp T.b__law_sizes_right (pda_cons (pd_var 0) (pda_cons (pd_var 1) pda_nil)) (aCons_l (aCons_l aNil_l)))))))) (pds_one (pds_ret pd_bl)) pds_nil) (pds_one (pds_if (PW.pt (pdw_or (pdt_not (pdt_val (pd_call (w__law_texts_right T TI) (hr.mono (by omega)) (by rfl) T.g__law_texts_right T.F__law_texts_right.kp T.b__law_texts_right (pda_cons (pd_var 0) (pda_cons (pd_var 1) pda_nil)) (aCons_l (aCons_l aNil_l))))) (pdw_or1 (pdt_not (pdt_val (pd_call (w__law_names_right T TI) (hr.mono (by omega)) (by rfl) T.g__law_names_right T.F__law_names_right.kp T.b__law_names_right (pda_cons (pd_var 0) pda_nil) (aCons_l aNil_l))))))) (pds_one (pds_ret pd_bl)) pds_nil)))) (pds_one (pds_ret (pd_callB (cd_all rfl) (by rfl) T.m_all (by decide +kernel) (pda_cons (pd_lc (own := [(Str.ofString "_law_word", 3)]) rfl sc__law_right.nd (pdi_data (pd_call0 (w__law_words T TI) (hr.mono (by omega)) (by rfl) T.g__law_words T.F__law_words.kp T.b__law_words)) (blkOk_by (by first | decide +kernel | rfl)) (fun _ _ _ _ _ => (pdg_name (i := 3) sc__law_right.nd rfl (by first | exact Or.inl rfl | exact Or.inr rfl))) (fun _ _ _ _ _ => pdts_nil) (fun _ _ _ _ _ => (pd_not (pd_call (w_is_name T TI) (hr.mono (by omega)) (by rfl) T.g_is_name T.F_is_name.kp T.b_is_name (pda_cons (pd_var 3) pda_nil) (aCons_l aNil_l)))) (by decide)) pda_nil)))))))
theorem sc_law : FnScope [Str.ofString "_law_script", Str.ofString "_law_index"] [Str.ofString "_law_script"] (defScope s_law) := ⟨rfl, rfl, rfl, by decide +kernel, rfl, by decide +kernel, by decide +kernel⟩
def g_law : SG := (sRet (eCB (one allD) (aCons (eLc (iRange (aCons (eCB max2 (aCons (eC (.int 1)) (aCons (eCB min2 (aCons (eCB (one lenD) (aCons (eVar 0) aNil)) (aCons (eC (.int 4)) aNil))) aNil))) aNil)) (tName 1) bYes (eCallPot f__law_right f__law_pot (aCons (eVar 0) (aCons (eVar 1) aNil))) [1]) aNil)))
def f_law : List PyData → Pt → Option (PyData × Pt) := runF 2 g_law
theorem w_law (T : TX K mg) (TI : TBI P w T base) : FnD P w K mg base 10 T.a_law T.fd_law [Str.ofString "_law_script"] f_law :=
  fn_of_body T.F_law sc_law (by decide) (fun cdv A outer s H E hr => (pds_one (pds_ret (pd_callB (cd_all rfl) (by rfl) T.m_all (by decide +kernel) (pda_cons (pd_lc (own := [(Str.ofString "_law_index", 1)]) rfl sc_law.nd (pdi_range1 (by rfl) T.m_range (pda_cons (pd_callB (cd_max2 rfl) (by rfl) T.m_max (by decide +kernel) (pda_cons pd_int (pda_cons (pd_callB (cd_min2 rfl) (by rfl) T.m_min (by decide +kernel) (pda_cons (pd_callB cd_len (by rfl) T.m_len (by decide +kernel) (pda_cons (pd_var 0) pda_nil)) (pda_cons pd_int pda_nil))) pda_nil))) pda_nil)) (blkOk_by (by first | decide +kernel | rfl)) (fun _ _ _ _ _ => (pdg_name (i := 1) sc_law.nd rfl (by first | exact Or.inl rfl | exact Or.inr rfl))) (fun _ _ _ _ _ => pdts_nil) (fun _ _ _ _ _ => (pd_callPot (w__law_right T TI) (hr.mono (by omega)) (by rfl) T.g__law_right T.F__law_right.kp T.b__law_right (w__law_pot T TI) (hr.mono (by omega)) (by rfl) T.g__law_pot T.F__law_pot.kp T.b__law_pot (pda_cons (pd_var 0) (pda_cons (pd_var 1) pda_nil)) (aCons_l (aCons_l aNil_l)))) (by decide)) pda_nil)))))
end
end
end W12
set_option Elab.async false
set_option linter.all false
set_option maxRecDepth 100000
set_option maxHeartbeats 2000000
namespace W12
open PySem L2 DL PL
local instance : TBL := ⟨[], fun _ => 0, fun _ => [], fun _ => none, w00⟩
theorem e_is_name : f_is_name = q_is_name := rfl
theorem e_is_integer : f_is_integer = q_is_integer := rfl
theorem e_is_line : f_is_line = q_is_line := rfl
def numS (i : Int) : Str := Str.ofString (toString i)
def spc : Str := Str.ofString " "
def joi : Str := Str.ofString " + "
def partS (p : Str × Int) : Str := numS p.2 ++ spc ++ p.1
def txt (l : Ln) : Str := if l = [] then Str.ofString "0" else Txt.join joi (l.map partS)
theorem num_nat {i : Int} {b : Nat} (h : 1 ≤ i ∧ i < 2 ^ b) : ∃ n : Nat, i = n ∧ 1 ≤ n ∧ n < 2 ^ b := by
  obtain ⟨n, rfl⟩ := Int.eq_ofNat_of_zero_le (show 0 ≤ i by omega)
  refine ⟨n, rfl, by omega, ?_⟩
  have := h.2
  exact_mod_cast this
theorem tl_numS (n : Nat) : TL.tl (numS (n : Int)) = TL.numL n := TL.tl_num n
theorem p100 : (2 : Nat) ^ 100 < 10 ^ 31 := by decide +kernel
theorem num_len {n : Nat} (h : n < 2 ^ 100) : (numS (n : Int)).length ≤ 31 := by
  rw [TL.len_tl, tl_numS]
  exact TL.numL_len (by decide) (Nat.lt_trans h p100)
theorem log_of {i : Int} {b : Nat} (h : 1 ≤ i ∧ i < 2 ^ b) (hb : 0 < b) : i.natAbs.log2 < b := by
  obtain ⟨n, rfl, h1, h2⟩ := num_nat h
  exact log2_le h2 hb
theorem tl_spc : TL.tl spc = [32] := by decide +kernel
theorem tl_joi : TL.tl joi = [32, 43, 32] := by decide +kernel
theorem tl_part (p : Str × Int) : TL.tl (partS p) = TL.tl (numS p.2) ++ (32 :: TL.tl p.1) := by
  unfold partS
  rw [TL.tl_append, TL.tl_append, tl_spc, List.append_assoc]
  rfl
theorem part_len {p : Str × Int} (h : nameS p.1 = true) (h1 : 1 ≤ p.2 ∧ p.2 < 2 ^ 100) : (partS p).length ≤ 40 := by
  obtain ⟨n, e, _, h2⟩ := num_nat h1
  have h3 := num_len h2
  rw [← e] at h3
  rw [TL.len_tl] at h3
  have h4 := (name_parts h).2.1
  rw [TL.len_tl] at h4
  rw [TL.len_tl, tl_part, List.length_append, List.length_cons]
  omega
theorem sum_le {ls : List Str} {B : Nat} (h : ∀ z ∈ ls, z.length ≤ B) : (ls.map (·.length)).sum ≤ ls.length * B := by
  induction ls with
  | nil => simp
  | cons z r ih =>
    have h1 := h z List.mem_cons_self
    have h2 := ih fun y hy => h y (List.mem_cons_of_mem _ hy)
    rw [List.map_cons, List.sum_cons, List.length_cons, Nat.succ_mul]
    omega
theorem strsL_map (zs : List Str) : strsL (zs.map .str) = some zs := by
  induction zs with
  | nil => rfl
  | cons z r ih =>
    rw [List.map_cons, strsL, ih]
    rfl
theorem join_at {zs : List Str} {a : Str} (h : ∀ z ∈ zs, z.length ≤ 1000) (hl : zs.length ≤ 1000) (ha : a.length ≤ 10) : joinD (.str a) (.list (zs.map .str)) = some (.str (Txt.join a zs)) := by
  have h1 := sum_le h
  have h2 : zs.length * 1000 ≤ 1000 * 1000 := Nat.mul_le_mul_right _ hl
  have h3 : zs.length * a.length ≤ 1000 * 10 := Nat.mul_le_mul hl ha
  unfold joinD
  simp only [strsL_map]
  rw [if_pos (decide_eq_true (by omega))]
theorem joi_len : joi.length = 3 := by decide +kernel
theorem str_at {i : Int} {b : Nat} (h : 1 ≤ i ∧ i < 2 ^ b) (hb : 0 < b) (hb2 : b ≤ 1900) : strI (.int i) = some (.str (numS i)) := by
  have := log_of h hb
  show (if decide (i.natAbs.log2 < 1920) then some (PyData.str (numS i)) else none) = _
  rw [if_pos (decide_eq_true (by omega))]
theorem add_SS {a b : Str} (h : a.length + b.length ≤ 1000) : addD (.str a) (.str b) = some (.str (a ++ b)) := by
  show orD addI (orD addS (orD addL addT)) (.str a) (.str b) = _
  have e : addS (.str a) (.str b) = some (.str (a ++ b)) := by
    show (if decide (a.length + b.length ≤ 16777216) then _ else _) = _
    rw [if_pos (decide_eq_true (by omega))]
  simp [orD, addI, onI2, e]
theorem app_len (a b : Str) : (a ++ b).length = a.length + b.length := strLen_append a b
theorem spc_len : spc.length = 1 := by decide +kernel
theorem numL_head : ∀ n : Nat, 1 ≤ n → ∃ c r, TL.numL n = c :: r ∧ c ≠ 48 := by
  intro n
  induction n using Nat.strongRecOn with
  | _ n ih =>
    intro h
    by_cases h1 : n < 10
    · exact ⟨48 + n, [], TL.numL_lt h1, by omega⟩
    · obtain ⟨c, r, e, hc⟩ := ih (n / 10) (by omega) (by omega)
      exact ⟨c, r ++ [48 + n % 10], by rw [TL.numL_step (by omega), e]; rfl, hc⟩
theorem dig_mem : ∀ c, 48 ≤ c ∧ c ≤ 57 → c ∈ (Str.ofString "0123456789").cps.toList := by
  have e : (Str.ofString "0123456789").cps.toList = [48, 49, 50, 51, 52, 53, 54, 55, 56, 57] := by decide +kernel
  intro c hc
  rw [e]
  simp only [List.mem_cons, List.not_mem_nil, or_false]
  omega
theorem count_of_at {n : Nat} (h1 : 1 ≤ n) (h2 : n < 2 ^ 100) (ps : Pt) : f_count_of [.str (numS (n : Int))] ps = some (.int n, ps) := by
  apply run_rt
  show g_count_of [.dat (.str (numS (n : Int))), .un] ps = _
  have ht : (numS (n : Int)).cps.toList = TL.numL n := tl_numS n
  have hl := num_len h2
  obtain ⟨c, r, e, hc⟩ := numL_head n h1
  have e1 : eqD (.str (numS (n : Int))) (.str (Str.ofString "")) = some (.bool false) := by
    have : ¬ numS (n : Int) = Str.ofString "" := fun z => by
      have z2 := congrArg (fun x : Str => x.cps.toList) z
      simp only [ht, e] at z2
      exact absurd z2 (by simp [show (Str.ofString "").cps.toList = [] from by decide +kernel])
    simp [eqD, orD, eqS, this]
  have e2 : ixD (.str (numS (n : Int))) (.int 0) = some (.str ⟨#[c]⟩) := by
    show (if decide ((numS (n : Int)).length ≤ 16777216) then (atI (numS (n : Int)).cps.toList 0).map (fun c => PyData.str ⟨#[c]⟩) else none) = _
    rw [if_pos (decide_eq_true (by omega)), ht, e]
    simp [atI, ixN]
  have e3 : eqD (.str ⟨#[c]⟩) (.str (Str.ofString "0")) = some (.bool false) := by
    have : ¬ (⟨#[c]⟩ : Str) = Str.ofString "0" := fun z => by
      have z2 := congrArg (fun x : Str => x.cps.toList) z
      have z3 : (Str.ofString "0").cps.toList = [48] := by decide +kernel
      simp only [z3] at z2
      exact hc (by simpa using z2)
    simp [eqD, orD, eqS, this]
  have a1 : eLc (iStrD (eVar 0)) (tName 1) bYes (eOp (inS false) (eVar 1) (eC k_DIGITS)) [1] [.dat (.str (numS (n : Int))), .un] ps = some (.list ((numS (n : Int)).cps.toList.map fun c => PyData.bool (decide (c ∈ (Str.ofString "0123456789").cps.toList))), ps) := by
    have hlen : (numS (n : Int)).cps.toList.length ≤ 1000 := by
      have : (numS (n : Int)).cps.toList.length = (numS (n : Int)).length := by simp [Str.length]
      omega
    exact lc_enc (e := fun c => .str ⟨#[c]⟩) (xs := (numS (n : Int)).cps.toList) rfl hlen fun c _ => lcS_at (S1 := [.dat (.str (numS (n : Int))), .dat (.str ⟨#[c]⟩)]) rfl (eOp_at rfl rfl rfl)
  have a2 : asB (eCB (one allD) (aCons (eLc (iStrD (eVar 0)) (tName 1) bYes (eOp (inS false) (eVar 1) (eC k_DIGITS)) [1]) aNil)) [.dat (.str (numS (n : Int))), .un] ps = some (true, ps) := by
    refine asB_at ((eCB_at (aCons_one a1) (allD_bools _ _)).trans ?_)
    rw [all_true fun c hc => decide_eq_true (dig_mem c (TL.numL_digits n c (by rw [← ht]; exact hc)))]
  have t1 := bOr_at (asB_at (eOp_at (g := eVar 0) (h := eC (.str (Str.ofString ""))) (S := [.dat (.str (numS (n : Int))), .un]) (ps := ps) rfl rfl e1)) (fun _ => bOr_at (asB_at (eOp_at (eOp_at (g := eVar 0) (h := eC (.int 0)) rfl rfl e2) (h := eC (.str (Str.ofString "0"))) rfl e3)) (fun _ => bNot_at a2) (fun z => by cases z)) (fun z => by cases z)
  unfold g_count_of
  rw [sSeq_nx (S1 := [.dat (.str (numS (n : Int))), .un]) (p := ps) (by rw [sIf_at t1]; rfl)]
  refine sRet_at (eCB_at (aCons_one rfl) ?_)
  show (if decide ((numS (n : Int)).length ≤ 640) then (PySem.intText? (numS (n : Int))).map PyData.int else none) = _
  have hi : PySem.intText? (numS (n : Int)) = some (n : Int) := TL.int_num (by
    have := hl
    rw [TL.len_tl, tl_numS] at this
    omega)
  rw [if_pos (decide_eq_true (by omega)), hi]
  rfl
theorem join_two (y a b : Str) : Txt.join y [a, b] = a ++ y ++ b := by
  rw [TL.join_eq]
  rfl
theorem split_part {p : Str × Int} (h : nameS p.1 = true) {n : Nat} (e : p.2 = n) : Txt.split (partS p) spc = [numS p.2, p.1] := by
  have e1 : partS p = Txt.join spc [numS p.2, p.1] := by rw [join_two]; rfl
  rw [e1]
  refine TL.split_join tl_spc (by decide +kernel) (by simp) fun z hz => ?_
  rcases List.mem_cons.mp hz with rfl | hz
  · rw [e, tl_numS]
    exact TL.numL_free (by omega)
  · rw [List.mem_singleton.mp hz]
    intro hm
    have := name_range h 32 hm
    omega
theorem part_of_at {p : Str × Int} (h : nameS p.1 = true) (h1 : 1 ≤ p.2 ∧ p.2 < 2 ^ 100) (ps : Pt) : f_part_of [.str (partS p)] ps = some (encP p, ps) := by
  apply run_rt
  show g_part_of [.dat (.str (partS p)), .un] ps = _
  obtain ⟨n, e, n1, n2⟩ := num_nat h1
  have hl := part_len h h1
  have e1 : splitD (.str (partS p)) (.str (Str.ofString " ")) = some (.list [.str (numS p.2), .str p.1]) := by
    show (if !(spc.length == 0) && decide ((partS p).length + 2 ≤ 16777216) then some (PyData.list ((Txt.split (partS p) spc).map .str)) else none) = _
    rw [if_pos (by rw [spc_len, decide_eq_true (by omega)]; rfl), split_part h e]
    rfl
  unfold g_part_of
  rw [sSeq_nx (sSet_at (eOp_at (g := eVar 0) (h := eC (.str (Str.ofString " "))) rfl rfl e1))]
  show sSeq _ _ [.dat (.str (partS p)), .dat (.list [.str (numS p.2), .str p.1])] ps = _
  have c1 : eCall f_count_of (aCons (eOp ixD (eVar 1) (eC (.int 0))) aNil) [.dat (.str (partS p)), .dat (.list [.str (numS p.2), .str p.1])] ps = some (.int p.2, ps) := by
    refine eCall_at (aCons_one (eOp_at rfl rfl rfl)) ?_
    rw [e]
    exact count_of_at n1 n2 ps
  have t1 := bOr_at (asB_at (eOp_at (eCB_at (o := one lenD) (S := [.dat (.str (partS p)), .dat (.list [.str (numS p.2), .str p.1])]) (ps := ps) (gs := aCons (eVar 1) aNil) (aCons_one rfl) rfl) (h := eC (.int 2)) rfl (ne_int 2 2)))
    (fun _ => bOr_at (bNot_at (asB_at (eCall_at (aCons_one (eOp_at (o := ixD) (g := eVar 1) (h := eC (.int 1)) rfl rfl rfl)) (show f_is_name [.str p.1] ps = some (.bool true, ps) from is_name_at h ps)))) (fun _ => asB_at (b := false) (eOp_at (o := isD) c1 (h := eC .none) rfl rfl)) (fun z => by cases z)) (fun z => by cases z)
  rw [sSeq_nx (S1 := [.dat (.str (partS p)), .dat (.list [.str (numS p.2), .str p.1])]) (p := ps) (by rw [sIf_at t1]; rfl)]
  refine sRet_at ?_
  unfold eTup
  rw [aCons_two (eOp_at rfl rfl rfl) c1, bindP_some]
  rfl
theorem free_name {q : List Nat} (h : ∀ c ∈ q, c ≠ 32) : SX.free [32, 43, 32] q = true := SX.free_head fun hm => h 32 hm rfl
theorem free_part : ∀ (d q : List Nat) (c : Nat), (∀ x ∈ d, x ≠ 32) → c ≠ 43 → (∀ x ∈ c :: q, x ≠ 32) → SX.free [32, 43, 32] (d ++ 32 :: c :: q) = true
  | [], q, c, _, hc, hq => by
    show (!(TL.pre [32, 43, 32] (32 :: (c :: q ++ [32, 43, 32]))) && SX.free [32, 43, 32] (c :: q)) = true
    rw [free_name hq, Bool.and_true, Bool.not_eq_true']
    unfold TL.pre
    rw [beq_eq_false_iff_ne]
    intro z
    simp at z
    exact hc z.1
  | x :: d, q, c, hd, hc, hq => by
    show (!(TL.pre [32, 43, 32] (x :: (d ++ 32 :: c :: q ++ [32, 43, 32]))) && SX.free [32, 43, 32] (d ++ 32 :: c :: q)) = true
    rw [free_part d q c (fun y hy => hd y (List.mem_cons_of_mem _ hy)) hc hq, Bool.and_true, Bool.not_eq_true']
    exact TL.pre_of_head _ _ (hd x List.mem_cons_self)
theorem spl_last_free {sep p : List Nat} (hs : sep ≠ []) (h : SX.free sep p = true) : TL.spl sep 0 [] p = [p] := by
  rw [TL.spl_last fun i hi => ?_, List.nil_append]
  have e := SX.free_at h [] i hi
  rw [List.append_nil] at e
  cases q : TL.pre sep (p.drop i) with
  | false => rfl
  | true =>
    exfalso
    have h2 : TL.pre sep ((p ++ sep).drop i) = true := by
      rw [List.drop_append_of_le_length (by omega)]
      unfold TL.pre at q ⊢
      have q2 := eq_of_beq q
      have hlen : sep.length ≤ (p.drop i).length := by
        have := congrArg List.length q2
        rw [List.length_take] at this
        omega
      rw [List.take_append_of_le_length hlen]
      exact q
    rw [h2] at e
    cases e
theorem spl_frees {sep : List Nat} (hs : sep ≠ []) : ∀ {parts : List (List Nat)}, parts ≠ [] → (∀ p ∈ parts, SX.free sep p = true) → TL.spl sep 0 [] (TL.joinL sep parts) = parts
  | [], h, _ => absurd rfl h
  | [p], _, hp => spl_last_free hs (hp p (List.mem_singleton.mpr rfl))
  | p :: q :: r, _, hp => by
    show TL.spl sep 0 [] (p ++ (sep ++ TL.joinL sep (q :: r))) = p :: q :: r
    rw [SX.spl_free _ hs (hp p List.mem_cons_self), spl_frees hs (by simp) fun z hz => hp z (List.mem_cons_of_mem _ hz)]
theorem split_txt {l : Ln} (h : LnOk 100 l) (hn : l ≠ []) : Txt.split (txt l) joi = l.map partS := by
  unfold txt
  rw [if_neg hn]
  refine TL.map_tl_inj ?_
  rw [TL.split_spl _ joi (by rw [tl_joi]; simp) (TL.kind_ok (by decide +kernel)), TL.join_eq, TL.tl_join, tl_joi]
  refine spl_frees (by simp) (fun z => hn (List.map_eq_nil_iff.mp (List.map_eq_nil_iff.mp z))) fun q hq => ?_
  obtain ⟨z, hz, rfl⟩ := List.mem_map.mp hq
  obtain ⟨p, hp, rfl⟩ := List.mem_map.mp hz
  obtain ⟨n, e, n1, n2⟩ := num_nat (h.ps p hp)
  have hr := name_range (h.nm p hp)
  have h1 := (name_parts (h.nm p hp)).1
  rw [tl_part, e, tl_numS]
  cases q : TL.tl p.1 with
  | nil =>
    rw [TL.len_tl, q] at h1
    exact absurd h1 (by decide)
  | cons c r =>
    have hr' : ∀ x ∈ c :: r, 97 ≤ x ∧ x ≤ 122 := fun x hx => hr x (by show x ∈ TL.tl p.1; rw [q]; exact hx)
    refine free_part _ _ _ (fun x hx => ?_) ?_ (fun x hx => ?_)
    · have := TL.numL_digits n x hx
      omega
    · have := hr' c List.mem_cons_self
      omega
    · have := hr' x hx
      omega
theorem txt_len {l : Ln} (h : LnOk 100 l) : (txt l).length ≤ 400 := by
  unfold txt
  split
  · decide +kernel
  · next hn =>
    have h0 : ∀ zs : List Str, (∀ z ∈ zs, z.length ≤ 40) → (Str.join joi zs).length ≤ zs.length * 43 := by
      intro zs
      induction zs with
      | nil => intro _; decide +kernel
      | cons z r ih =>
        intro hz
        have h1 := hz z List.mem_cons_self
        have h2 := ih fun y hy => hz y (List.mem_cons_of_mem _ hy)
        cases r with
        | nil =>
          show z.length ≤ 1 * 43
          omega
        | cons y r =>
          show (z ++ joi ++ Str.join joi (y :: r)).length ≤ _
          rw [app_len, app_len, joi_len, List.length_cons, Nat.succ_mul]
          omega
    rw [TL.join_eq]
    have h1 := h0 (l.map partS) fun z hz => by
      obtain ⟨p, hp, rfl⟩ := List.mem_map.mp hz
      exact part_len (h.nm p hp) (h.ps p hp)
    rw [List.length_map] at h1
    have := h.len
    omega
def okS (z : Str) : Prop := ∀ c ∈ TL.tl z, c < 1114112
theorem okS_app {a b : Str} (h1 : okS a) (h2 : okS b) : okS (a ++ b) := fun c hc => by
  rw [TL.tl_append] at hc
  rcases List.mem_append.mp hc with hc | hc
  · exact h1 c hc
  · exact h2 c hc
theorem okS_join {y : Str} (hy : okS y) : ∀ {zs : List Str}, (∀ z ∈ zs, okS z) → okS (Str.join y zs)
  | [], _ => fun c hc => by cases hc
  | [z], h => h z (List.mem_singleton.mpr rfl)
  | z :: z2 :: r, h => by
    show okS (z ++ y ++ Str.join y (z2 :: r))
    exact okS_app (okS_app (h z List.mem_cons_self) hy) (okS_join hy fun q hq => h q (List.mem_cons_of_mem _ hq))
theorem okS_lit {z : Str} (h : (TL.tl z).all (fun c => decide (c < 1114112)) = true) : okS z := fun c hc => of_decide_eq_true (List.all_eq_true.mp h c hc)
theorem okS_tup {ts : List Str} (h : ∀ t ∈ ts, okS t) : okS (tupleText ts) := by
  unfold tupleText
  refine okS_app (okS_app (okS_lit (by decide +kernel)) (okS_join (okS_lit (by decide +kernel)) h)) ?_
  split
  · exact okS_lit (by decide +kernel)
  · exact okS_lit (by decide +kernel)
end W12
set_option Elab.async false
set_option linter.all false
set_option maxRecDepth 100000
set_option maxHeartbeats 2000000
namespace W12
open PySem L2 DL PL
local instance : TBL := ⟨[], fun _ => 0, fun _ => [], fun _ => none, w00⟩
abbrev J : List Nat := [32, 43, 32]
def mk (l : List Nat) : Str := ⟨l.toArray⟩
theorem tl_mk (l : List Nat) : TL.tl (mk l) = l := TL.tl_mk l
theorem mk_tl (z : Str) : mk (TL.tl z) = z := TL.mk_tl z
theorem mk_len (l : List Nat) : (mk l).length = l.length := by rw [TL.len_tl, tl_mk]
def Asc (z : Str) : Prop := (∀ c ∈ TL.tl z, c < 128) ∧ z.length ≤ 100
theorem asc_wf {w : Nat} {z : Str} (h : Asc z) : wf w (.str z) = true := by
  have h1 := StrLaws.reprText_len z fun c hc => by
    have := h.1 c hc
    omega
  have h2 := h.2
  rw [wf, strOk_of fun c hc => by have := h.1 c hc; omega, decide_eq_true (by omega), decide_eq_true (by omega)]
  rfl
def PieceOk (w : Str) (x : PyData) : Prop := ∀ ps, f_part_of [.str w] ps = some (x, ps)
theorem split_sp {w : Str} (hl : w.length ≤ 1000) : splitD (.str w) (.str (Str.ofString " ")) = some (.list ((Txt.split w spc).map .str)) := by
  show (if !(spc.length == 0) && decide (w.length + 2 ≤ 16777216) then some (PyData.list ((Txt.split w spc).map .str)) else none) = _
  rw [if_pos (by rw [spc_len, decide_eq_true (by omega)]; rfl)]
theorem part_none {w : Str} {ws : List Str} {ps : Pt} (hl : w.length ≤ 1000) (hs : Txt.split w spc = ws)
    (ht : (bOr (asB (eOp neD (eCB (one lenD) (aCons (eVar 1) aNil)) (eC (.int 2)))) (bOr (bNot (asB (eCall f_is_name (aCons (eOp ixD (eVar 1) (eC (.int 1))) aNil)))) (asB (eOp isD (eCall f_count_of (aCons (eOp ixD (eVar 1) (eC (.int 0))) aNil)) (eC .none))))) [.dat (.str w), .dat (.list (ws.map .str))] ps = some (true, ps)) : f_part_of [.str w] ps = some (.none, ps) := by
  apply run_rt
  show g_part_of [.dat (.str w), .un] ps = _
  unfold g_part_of
  have e1 := split_sp hl
  rw [hs] at e1
  rw [sSeq_nx (sSet_at (eOp_at (g := eVar 0) (h := eC (.str (Str.ofString " "))) rfl rfl e1))]
  show sSeq _ _ [.dat (.str w), .dat (.list (ws.map .str))] ps = _
  exact sSeq_rt (by rw [sIf_at ht]; rfl)
theorem piece_count {w : Str} (hl : w.length ≤ 1000) (hc : (Txt.split w spc).length ≠ 2) : PieceOk w .none := fun ps => by
  refine part_none hl rfl ?_
  have e : lenD (.list ((Txt.split w spc).map .str)) = some (.int (((Txt.split w spc).map PyData.str).length : Nat)) := rfl
  refine bOr_at (b := true) (c := true) (asB_at ?_) (fun z => by cases z) (fun _ => rfl)
  have e2 := ne_int (((Txt.split w spc).map PyData.str).length : Nat) 2
  rw [decide_eq_true (by rw [List.length_map]; intro z; exact hc (by exact_mod_cast z))] at e2
  exact eOp_at (eCB_at (aCons_one rfl) e) rfl e2
theorem len2 (w a b : Str) (ps : Pt) : asB (eOp neD (eCB (one lenD) (aCons (eVar 1) aNil)) (eC (.int 2))) [.dat (.str w), .dat (.list ([a, b].map .str))] ps = some (false, ps) :=
  asB_at (eOp_at (eCB_at (o := one lenD) (aCons_one rfl) rfl) rfl (ne_int 2 2))
theorem nm2 (w a b : Str) (ps : Pt) (hb : wf 12 (.str b) = true) : bNot (asB (eCall f_is_name (aCons (eOp ixD (eVar 1) (eC (.int 1))) aNil))) [.dat (.str w), .dat (.list ([a, b].map .str))] ps = some (!nameS b, ps) :=
  bNot_at (asB_at (eCall_at (aCons_one (eOp_at (o := ixD) (g := eVar 1) (h := eC (.int 1)) (x := .list ([a, b].map .str)) (y := .int 1) (d := .str b) rfl rfl rfl)) (is_name (w := 12) ps hb)))
theorem piece_name {w a b : Str} (hl : w.length ≤ 1000) (hs : Txt.split w spc = [a, b]) (hw : wf 12 (.str b) = true) (hb : nameS b = false) : PieceOk w .none := fun ps => by
  refine part_none hl hs ?_
  have h1 := nm2 w a b ps hw
  rw [hb] at h1
  exact bOr_at (b := false) (c := true) (len2 w a b ps) (fun _ => bOr_at (b := true) (c := true) h1 (fun z => by cases z) (fun _ => rfl)) (fun z => by cases z)
theorem count_none {a : Str} {c : Nat} {r : List Nat} (ha : TL.tl a = c :: r) (hl : a.length ≤ 600) (h : c = 48 ∨ ∃ y ∈ c :: r, ¬ (48 ≤ y ∧ y ≤ 57)) (ps : Pt) : f_count_of [.str a] ps = some (.none, ps) := by
  apply run_rt
  show g_count_of [.dat (.str a), .un] ps = _
  have ht : a.cps.toList = c :: r := ha
  have e1 : eqD (.str a) (.str (Str.ofString "")) = some (.bool false) := by
    have : ¬ a = Str.ofString "" := fun z => by
      have z2 := congrArg (fun x : Str => x.cps.toList) z
      simp only [ht] at z2
      exact absurd z2 (by simp [show (Str.ofString "").cps.toList = [] from by decide +kernel])
    simp [eqD, orD, eqS, this]
  have e2 : ixD (.str a) (.int 0) = some (.str ⟨#[c]⟩) := by
    show (if decide (a.length ≤ 16777216) then (atI a.cps.toList 0).map (fun c => PyData.str ⟨#[c]⟩) else none) = _
    rw [if_pos (decide_eq_true (by omega)), ht]
    simp [atI, ixN]
  have e3 : eqD (.str ⟨#[c]⟩) (.str (Str.ofString "0")) = some (.bool (decide (c = 48))) := by
    have z3 : (Str.ofString "0") = ⟨#[48]⟩ := TL.ext_tl (by decide +kernel)
    rw [z3]
    have : ((⟨#[c]⟩ : Str) = ⟨#[48]⟩) ↔ c = 48 := ⟨fun z => by
      have z2 := congrArg (fun x : Str => x.cps.toList) z
      simpa using z2, fun z => by rw [z]⟩
    simp [eqD, orD, eqS, this]
  have hlen : a.cps.toList.length ≤ 1000 := by
    have : a.cps.toList.length = a.length := by simp [Str.length]
    omega
  have a1 : eLc (iStrD (eVar 0)) (tName 1) bYes (eOp (inS false) (eVar 1) (eC k_DIGITS)) [1] [.dat (.str a), .un] ps = some (.list (a.cps.toList.map fun c => PyData.bool (decide (c ∈ (Str.ofString "0123456789").cps.toList))), ps) :=
    lc_enc (e := fun c => .str ⟨#[c]⟩) (xs := a.cps.toList) rfl hlen fun c _ => lcS_at (S1 := [.dat (.str a), .dat (.str ⟨#[c]⟩)]) rfl (eOp_at rfl rfl rfl)
  have a2 : asB (eCB (one allD) (aCons (eLc (iStrD (eVar 0)) (tName 1) bYes (eOp (inS false) (eVar 1) (eC k_DIGITS)) [1]) aNil)) [.dat (.str a), .un] ps = some (a.cps.toList.all fun c => decide (c ∈ (Str.ofString "0123456789").cps.toList), ps) := asB_at (eCB_at (aCons_one a1) (allD_bools _ _))
  have t0 := asB_at (eOp_at (g := eVar 0) (h := eC (.str (Str.ofString ""))) (S := [.dat (.str a), .un]) (ps := ps) rfl rfl e1)
  have t1 := asB_at (eOp_at (eOp_at (g := eVar 0) (h := eC (.int 0)) (S := [.dat (.str a), .un]) (ps := ps) rfl rfl e2) (h := eC (.str (Str.ofString "0"))) rfl e3)
  have tt : (bOr (asB (eOp eqD (eVar 0) (eC (.str (Str.ofString ""))))) (bOr (asB (eOp eqD (eOp ixD (eVar 0) (eC (.int 0))) (eC (.str (Str.ofString "0"))))) (bNot (asB (eCB (one allD) (aCons (eLc (iStrD (eVar 0)) (tName 1) bYes (eOp (inS false) (eVar 1) (eC k_DIGITS)) [1]) aNil)))))) [.dat (.str a), .un] ps = some (true, ps) := by
    by_cases hc : c = 48
    · rw [decide_eq_true hc] at t1
      exact bOr_at (b := false) (c := true) t0 (fun _ => bOr_at (b := true) (c := true) t1 (fun z => by cases z) (fun _ => rfl)) (fun z => by cases z)
    · rw [decide_eq_false hc] at t1
      have hd : (a.cps.toList.all fun c => decide (c ∈ (Str.ofString "0123456789").cps.toList)) = false := by
        rcases h with h | ⟨y, hy, hn⟩
        · exact absurd h hc
        · rw [List.all_eq_false]
          refine ⟨y, by rw [ht]; exact hy, ?_⟩
          have e : (Str.ofString "0123456789").cps.toList = [48, 49, 50, 51, 52, 53, 54, 55, 56, 57] := by decide +kernel
          rw [e]
          simp only [List.mem_cons, List.not_mem_nil, or_false, decide_eq_true_eq]
          omega
      rw [hd] at a2
      exact bOr_at (b := false) (c := true) t0 (fun _ => bOr_at (b := false) (c := true) t1 (fun _ => bNot_at a2) (fun z => by cases z)) (fun z => by cases z)
  unfold g_count_of
  exact sSeq_rt (by rw [sIf_at tt]; rfl)
theorem piece_no {w a b : Str} {c : Nat} {r : List Nat} (hl : w.length ≤ 1000) (hs : Txt.split w spc = [a, b]) (hb : nameS b = true) (ha : TL.tl a = c :: r) (hal : a.length ≤ 600) (h : c = 48 ∨ ∃ y ∈ c :: r, ¬ (48 ≤ y ∧ y ≤ 57)) : PieceOk w .none := fun ps => by
  refine part_none hl hs ?_
  have h1 := nm2 w a b ps (name_wf hb)
  rw [hb] at h1
  refine bOr_at (b := false) (c := true) (len2 w a b ps) (fun _ => bOr_at (b := false) (c := true) h1 (fun _ => asB_at (eOp_at (o := isD) (x := .none) (y := .none) (eCall_at (aCons_one (eOp_at (o := ixD) (g := eVar 1) (h := eC (.int 0)) (x := .list ([a, b].map .str)) (y := .int 0) (d := .str a) rfl rfl rfl)) (count_none ha hal h ps)) rfl rfl)) (fun z => by cases z)) (fun z => by cases z)
theorem piece_good {p : Str × Int} (h : nameS p.1 = true) (h1 : 1 ≤ p.2 ∧ p.2 < 2 ^ 100) : PieceOk (partS p) (encP p) := part_of_at h h1
theorem split_codes (w : Str) : (Txt.split w spc).map TL.tl = TL.spl [32] 0 [] (TL.tl w) := by
  rw [TL.split_spl w spc (by rw [tl_spc]; simp) (TL.kind_ok (by decide +kernel)), tl_spc]
theorem spl_count : ∀ (l acc : List Nat), (TL.spl [32] 0 acc l).length = 1 + l.count 32
  | [], acc => by rw [TL.spl_nil]; rfl
  | c :: r, acc => by
    by_cases h : c = 32
    · subst h
      rw [TL.spl_hit (by rfl)]
      show (acc :: TL.spl [32] 0 [] r).length = _
      rw [List.length_cons, spl_count r []]
      simp
      omega
    · rw [TL.spl_miss (TL.pre_of_head _ _ h), spl_count r]
      rw [List.count_cons_of_ne (by simpa using h)]
theorem piece_cnt {l : List Nat} (hl : l.length ≤ 1000) (hc : l.count 32 ≠ 1) : PieceOk (mk l) .none := by
  refine piece_count (by rw [mk_len]; exact hl) fun z => hc ?_
  have e := congrArg List.length (split_codes (mk l))
  rw [List.length_map, spl_count, tl_mk, z] at e
  omega
theorem split_two {a b : List Nat} (ha : 32 ∉ a) (hb : 32 ∉ b) : Txt.split (mk (a ++ 32 :: b)) spc = [mk a, mk b] := by
  refine TL.map_tl_inj ?_
  rw [split_codes, tl_mk]
  show TL.spl [32] 0 [] (a ++ ([32] ++ b)) = [a, b]
  rw [TL.spl_part1 ha, TL.spl_last1 hb]
  rfl
theorem piece_nm {a b : List Nat} (ha : 32 ∉ a) (hb : 32 ∉ b) (hl : a.length + b.length ≤ 90) (hc : ∀ c ∈ b, c < 128) (hn : nameS (mk b) = false) : PieceOk (mk (a ++ 32 :: b)) .none :=
  piece_name (by rw [mk_len, List.length_append, List.length_cons]; omega) (split_two ha hb) (asc_wf ⟨fun c h => hc c (by rwa [tl_mk] at h), by rw [mk_len]; omega⟩) hn
theorem piece_nn {a b : List Nat} {c : Nat} {r : List Nat} (ea : a = c :: r) (ha : 32 ∉ a) (hl : a.length + b.length ≤ 90) (hn : nameS (mk b) = true) (h : c = 48 ∨ ∃ y ∈ c :: r, ¬ (48 ≤ y ∧ y ≤ 57)) : PieceOk (mk (a ++ 32 :: b)) .none := by
  have hb : 32 ∉ b := fun hm => by
    have := name_range hn 32 hm
    omega
  exact piece_no (by rw [mk_len, List.length_append, List.length_cons]; omega) (split_two ha hb) hn (by rw [tl_mk]; exact ea) (by rw [mk_len]; omega) h
noncomputable def partV (w : Str) : PyData := match f_part_of [.str w] (0, 0, 0) with
  | some (x, _) => x
  | none => .none
theorem partV_of {w : Str} {x : PyData} (h : PieceOk w x) : partV w = x := by
  unfold partV
  rw [h]
def excT (i : Int) : PyData := excD (Str.ofString "InvalidText") [(Str.ofString "line", .int i)]
theorem parse_gen {z : Str} {ws : List Str} {b : Bool} (hl : z.length ≤ 1000) (hz : z ≠ Str.ofString "0") (hs : Txt.split z joi = ws) (hx : ∀ w ∈ ws, PieceOk w (partV w)) (hn : ws.length ≤ 12) (hw : ∀ w ∈ ws, wf 12 (partV w) = true) (hb : lineOk (.tuple (ws.map partV)) = b) (ps : Pt) :
    f_parse_line [.str z] ps = some (if b then .tuple (ws.map partV) else excT 1, ps) := by
  apply run_rt
  show g_parse_line [.dat (.str z), .un, .un] ps = _
  unfold g_parse_line
  rw [sSeq_nx (S1 := [.dat (.str z), .un, .un]) (p := ps) (by rw [sIf_at (bNot_at (asB_at (eUn_at rfl (isi_str_at _))))]; rfl)]
  have e0 : eqD (.str z) k_NOTHING = some (.bool false) := by
    show orD eqS eqD0 (.str z) (.str (Str.ofString "0")) = _
    simp [orD, eqS, hz]
  rw [sSeq_nx (S1 := [.dat (.str z), .un, .un]) (p := ps) (by rw [sIf_at (asB_at (eOp_at (g := eVar 0) rfl rfl e0))]; rfl)]
  have e1 : splitD (.str z) k_JOINER = some (.list (ws.map .str)) := by
    show (if !(joi.length == 0) && decide (z.length + 2 ≤ 16777216) then some (PyData.list ((Txt.split z joi).map .str)) else none) = _
    rw [if_pos (by rw [joi_len, decide_eq_true (by omega)]; rfl), hs]
  have a1 : eLc (iOf (eOp splitD (eVar 0) (eC k_JOINER))) (tName 2) bYes (eCall f_part_of (aCons (eVar 2) aNil)) [2] [.dat (.str z), .un, .un] ps = some (.list (ws.map partV), ps) := by
    refine lc_enc (e := PyData.str) (xs := ws) (g := partV) ?_ (by omega) fun w hw => lcS_at (S1 := [.dat (.str z), .un, .dat (.str w)]) rfl (eCall_at (aCons_one rfl) (hx w hw ps))
    unfold iOf
    rw [eOp_at (g := eVar 0) (h := eC k_JOINER) rfl rfl e1, bindP_some]
    rfl
  rw [sSeq_nx (sSet_at a1)]
  show sSeq _ _ [.dat (.str z), .dat (.list (ws.map partV)), .un] ps = _
  have tp : eCB (one tupleD) (aCons (eVar 1) aNil) [.dat (.str z), .dat (.list (ws.map partV)), .un] ps = some (.tuple (ws.map partV), ps) := eCB_at (aCons_one rfl) rfl
  have hline : f_is_line [.tuple (ws.map partV)] ps = some (.bool b, ps) := by
    rw [e_is_line, is_line_any ps (wf_tup.mpr ⟨by rw [List.length_map]; exact hn, fun d hd => by
      obtain ⟨w, hw', rfl⟩ := List.mem_map.mp hd
      exact hw w hw'⟩), hb]
  have t2 := bNot_at (asB_at (eCall_at (aCons_one tp) hline))
  cases b with
  | true =>
    rw [sSeq_nx (S1 := [.dat (.str z), .dat (.list (ws.map partV)), .un]) (p := ps) (by rw [sIf_at t2]; rfl)]
    exact sRet_at tp
  | false =>
    refine sSeq_rt (d := excT 1) (p := ps) ?_
    rw [sIf_at t2]
    exact raise1_at rfl
theorem lineOk_none {ds : List PyData} (h : PyData.none ∈ ds) : lineOk (.tuple ds) = false := by
  have : ds.all partOk = false := by
    rw [List.all_eq_false]
    exact ⟨_, h, by decide⟩
  show (ds.all partOk && ascS (ds.map frameOf)) = false
  rw [this, Bool.false_and]
theorem parse_bad {z : Str} {ws : List Str} (hl : z.length ≤ 1000) (hz : z ≠ Str.ofString "0") (hs : Txt.split z joi = ws) (hn : ws.length ≤ 12) (hx : ∀ w ∈ ws, PieceOk w .none ∨ ∃ p : Str × Int, w = partS p ∧ nameS p.1 = true ∧ 1 ≤ p.2 ∧ p.2 < 2 ^ 100) (hb : ∃ w ∈ ws, PieceOk w .none) (ps : Pt) : f_parse_line [.str z] ps = some (excT 1, ps) := by
  have h1 : ∀ w ∈ ws, PieceOk w (partV w) ∧ wf 12 (partV w) = true := fun w hw => by
    rcases hx w hw with h | ⟨p, rfl, h2, h3⟩
    · rw [partV_of h]
      exact ⟨h, rfl⟩
    · have h := piece_good h2 h3
      rw [partV_of h]
      refine ⟨h, wf_tup.mpr ⟨by simp, fun d hd => ?_⟩⟩
      rcases List.mem_cons.mp hd with rfl | hd
      · exact name_wf h2
      · rw [List.mem_singleton.mp hd, wf]
        have := log_of h3 (by decide)
        exact decide_eq_true (by omega)
  have h2 : PyData.none ∈ ws.map partV := by
    obtain ⟨w, hw, h⟩ := hb
    exact List.mem_map.mpr ⟨w, hw, partV_of h⟩
  rw [parse_gen (b := false) hl hz hs (fun w hw => (h1 w hw).1) hn (fun w hw => (h1 w hw).2) (lineOk_none h2)]
  rfl
theorem parse_ln {z : Str} {l : Ln} (hl : z.length ≤ 1000) (hz : z ≠ Str.ofString "0") (hs : Txt.split z joi = l.map partS) (hn : l.length ≤ 12) (hp : ∀ p ∈ l, nameS p.1 = true ∧ 1 ≤ p.2 ∧ p.2 < 2 ^ 100) (ps : Pt) : f_parse_line [.str z] ps = some (if ascS (l.map (·.1)) then encL l else excT 1, ps) := by
  have e : (l.map partS).map partV = l.map encP := by
    rw [List.map_map]
    refine List.map_congr_left fun p hp' => ?_
    exact partV_of (piece_good (hp p hp').1 (hp p hp').2)
  have hl1 : lineOk (.tuple (l.map encP)) = ascS (l.map (·.1)) := by
    have : (l.map encP).all partOk = true := by
      rw [List.all_eq_true]
      intro d hd
      obtain ⟨p, hp', rfl⟩ := List.mem_map.mp hd
      show (nameS p.1 && decide (1 ≤ p.2)) = true
      rw [(hp p hp').1, decide_eq_true (hp p hp').2.1]
      rfl
    show ((l.map encP).all partOk && ascS ((l.map encP).map frameOf)) = _
    rw [this, Bool.true_and, List.map_map]
    rfl
  rw [parse_gen hl hz hs (b := ascS (l.map (·.1))) (fun w hw => by
    obtain ⟨p, hp', rfl⟩ := List.mem_map.mp hw
    rw [partV_of (piece_good (hp p hp').1 (hp p hp').2)]
    exact piece_good (hp p hp').1 (hp p hp').2) (by rw [List.length_map]; exact hn) (fun w hw => by
    obtain ⟨p, hp', rfl⟩ := List.mem_map.mp hw
    rw [partV_of (piece_good (hp p hp').1 (hp p hp').2)]
    refine wf_tup.mpr ⟨by simp, fun d hd => ?_⟩
    rcases List.mem_cons.mp hd with rfl | hd
    · exact name_wf (hp p hp').1
    · rw [List.mem_singleton.mp hd, wf]
      have := log_of (hp p hp').2 (by decide)
      exact decide_eq_true (by omega)) (by rw [e]; exact hl1), e]
  rfl
end W12
set_option Elab.async false
set_option linter.all false
set_option maxRecDepth 100000
set_option maxHeartbeats 2000000
namespace W12
open PySem L2 DL PL
local instance : TBL := ⟨[], fun _ => 0, fun _ => [], fun _ => none, w00⟩
theorem jl_cons {p : List Nat} {r : List (List Nat)} (h : r ≠ []) : TL.joinL J (p :: r) = p ++ (J ++ TL.joinL J r) := by
  cases r with
  | nil => exact absurd rfl h
  | cons q r => rfl
theorem jl_head (a p : List Nat) (r : List (List Nat)) : TL.joinL J ((a ++ p) :: r) = a ++ TL.joinL J (p :: r) := by
  cases r with
  | nil => rfl
  | cons q r =>
    show a ++ p ++ (J ++ TL.joinL J (q :: r)) = a ++ (p ++ (J ++ TL.joinL J (q :: r)))
    rw [List.append_assoc]
theorem jl_app : ∀ {xs ys : List (List Nat)}, xs ≠ [] → ys ≠ [] → TL.joinL J (xs ++ ys) = TL.joinL J xs ++ (J ++ TL.joinL J ys)
  | [], _, h, _ => absurd rfl h
  | [x], ys, _, hy => by
    show TL.joinL J (x :: ys) = x ++ _
    rw [jl_cons hy]
  | x :: y :: r, ys, _, hy => by
    show TL.joinL J (x :: (y :: r ++ ys)) = _
    rw [jl_cons (by simp), jl_app (xs := y :: r) (by simp) hy]
    show _ = x ++ (J ++ TL.joinL J (y :: r)) ++ _
    simp only [List.append_assoc]
theorem jl_last (r : List (List Nat)) (p b : List Nat) : TL.joinL J (r ++ [p ++ b]) = TL.joinL J (r ++ [p]) ++ b := by
  cases r with
  | nil => rfl
  | cons x r =>
    rw [jl_app (by simp) (by simp), jl_app (by simp) (by simp)]
    show _ ++ (J ++ (p ++ b)) = _ ++ (J ++ p) ++ b
    simp only [List.append_assoc]
theorem spl_last2 : ∀ {ps : List (List Nat)} {q : List Nat}, (∀ p ∈ ps, SX.free J p = true) → (∀ i, i < q.length → TL.pre J (q.drop i) = false) → TL.spl J 0 [] (TL.joinL J (ps ++ [q])) = ps ++ [q]
  | [], q, _, hq => by
    show TL.spl J 0 [] q = [q]
    rw [TL.spl_last hq, List.nil_append]
  | p :: r, q, hp, hq => by
    rw [List.cons_append, jl_cons (by simp), SX.spl_free _ (by simp) (hp p List.mem_cons_self), spl_last2 (fun z hz => hp z (List.mem_cons_of_mem _ hz)) hq]
theorem split_of {z : Str} {ps : List (List Nat)} {q : List Nat} (e : TL.tl z = TL.joinL J (ps ++ [q])) (hp : ∀ p ∈ ps, SX.free J p = true) (hq : ∀ i, i < q.length → TL.pre J (q.drop i) = false) : Txt.split z joi = (ps ++ [q]).map mk := by
  refine TL.map_tl_inj ?_
  rw [TL.split_spl z joi (by rw [tl_joi]; simp) (TL.kind_ok (by decide +kernel)), tl_joi, e, spl_last2 hp hq, List.map_map]
  exact (List.map_id'' (fun _ => rfl) _).symm
theorem pre_J {l : List Nat} (h : TL.pre J l = true) : ∃ b, l = 32 :: 43 :: 32 :: b := by
  unfold TL.pre at h
  have h := eq_of_beq h
  match l, h with
  | a :: b :: c :: r, h =>
    simp at h
    obtain ⟨rfl, rfl, rfl⟩ := h
    exact ⟨r, rfl⟩
  | [], h => simp at h
  | [a], h => simp at h
  | [a, b], h => simp at h
theorem nop_no {q : List Nat} (h : 43 ∉ q) : ∀ i, i < q.length → TL.pre J (q.drop i) = false := fun i _ => by
  cases e : TL.pre J (q.drop i) with
  | false => rfl
  | true =>
    obtain ⟨b, hb⟩ := pre_J e
    exact absurd (List.mem_of_mem_drop (show 43 ∈ q.drop i by rw [hb]; simp)) h
theorem uniq {x : Nat} : ∀ {u v u' v' : List Nat}, x ∉ u → x ∉ v → u ++ x :: v = u' ++ x :: v' → u = u' ∧ v = v'
  | [], v, [], v', _, _, e => by
    simp at e
    exact ⟨rfl, e⟩
  | [], v, a :: u', v', _, hv, e => by
    simp at e
    exact absurd (show x ∈ v by rw [e.2]; simp) hv
  | a :: u, v, [], v', hu, _, e => by
    simp at e
    exact absurd (by rw [e.1]; simp) hu
  | a :: u, v, b :: u', v', hu, hv, e => by
    simp at e
    obtain ⟨h1, h2⟩ := uniq (fun h => hu (List.mem_cons_of_mem _ h)) hv e.2
    exact ⟨by rw [e.1, h1], h2⟩
theorem nop_plus {u v : List Nat} (hu : 43 ∉ u) (hv : 43 ∉ v) (h : v.head? ≠ some 32 ∨ u.getLast? ≠ some 32) : ∀ i, i < (u ++ 43 :: v).length → TL.pre J ((u ++ 43 :: v).drop i) = false := fun i _ => by
  cases e : TL.pre J ((u ++ 43 :: v).drop i) with
  | false => rfl
  | true =>
    exfalso
    obtain ⟨b, hb⟩ := pre_J e
    have e2 : u ++ 43 :: v = ((u ++ 43 :: v).take i ++ [32]) ++ 43 :: (32 :: b) := by
      rw [List.append_assoc]
      show _ = (u ++ 43 :: v).take i ++ (32 :: 43 :: 32 :: b)
      rw [← hb, List.take_append_drop]
    obtain ⟨h1, h2⟩ := uniq hu hv e2
    rcases h with h | h
    · exact h (by rw [h2]; rfl)
    · exact h (by rw [h1]; simp)
structure Pc (d n : List Nat) : Prop where
  dg : ∀ x ∈ d, 48 ≤ x ∧ x ≤ 57
  d0 : d ≠ []
  dz : d.head? ≠ some 48
  dl : d.length ≤ 31
  nm : ∀ x ∈ n, 97 ≤ x ∧ x ≤ 122
  n0 : n ≠ []
  nl : n.length ≤ 8
  ns : nameS (mk n) = true
abbrev pcd (p : Str × Int) : List Nat := TL.tl (numS p.2)
abbrev pcn (p : Str × Int) : List Nat := TL.tl p.1
def pc (p : Str × Int) : List Nat := pcd p ++ 32 :: pcn p
theorem pc_tl (p : Str × Int) : TL.tl (partS p) = pc p := tl_part p
theorem pc_ok {p : Str × Int} (h : nameS p.1 = true) (h1 : 1 ≤ p.2 ∧ p.2 < 2 ^ 100) : Pc (pcd p) (pcn p) := by
  obtain ⟨n, e, n1, n2⟩ := num_nat h1
  have hr := name_range h
  have hp := name_parts h
  have h2 := num_len n2
  rw [TL.len_tl, tl_numS] at h2
  have e1 : pcd p = TL.numL n := by
    show TL.tl (numS p.2) = _
    rw [e, tl_numS]
  obtain ⟨c, r, e2, hc⟩ := numL_head n n1
  refine ⟨fun x hx => TL.numL_digits n x (by rw [← e1]; exact hx), by rw [e1, e2]; simp, by rw [e1, e2]; simpa using hc, by rw [e1]; exact h2, fun x hx => hr x hx, fun z => ?_, ?_, ?_⟩
  · have := hp.1
    rw [TL.len_tl, show TL.tl p.1 = [] from z] at this
    exact absurd this (by decide)
  · rw [← TL.len_tl]
    exact hp.2.1
  · show nameS (mk (TL.tl p.1)) = true
    rw [mk_tl]
    exact h
section
variable {d n : List Nat}
theorem Pc.d32 (h : Pc d n) : 32 ∉ d := fun hm => by have := h.dg 32 hm; omega
theorem Pc.n32 (h : Pc d n) : 32 ∉ n := fun hm => by have := h.nm 32 hm; omega
theorem Pc.d43 (h : Pc d n) : 43 ∉ d := fun hm => by have := h.dg 43 hm; omega
theorem Pc.n43 (h : Pc d n) : 43 ∉ n := fun hm => by have := h.nm 43 hm; omega
theorem Pc.p43 (h : Pc d n) : 43 ∉ d ++ 32 :: n := by
  simp only [List.mem_append, List.mem_cons, not_or]
  exact ⟨h.d43, by decide, h.n43⟩
theorem Pc.cnt (h : Pc d n) : (d ++ 32 :: n).count 32 = 1 := by
  rw [List.count_append, List.count_cons_self, List.count_eq_zero.mpr h.d32, List.count_eq_zero.mpr h.n32]
theorem Pc.len (h : Pc d n) : (d ++ 32 :: n).length ≤ 40 := by
  rw [List.length_append, List.length_cons]
  have := h.dl
  have := h.nl
  omega
theorem free_43 {p : List Nat} {c : Nat} (hp : 43 ∉ p) (hc : p.getLast? = some c) (h32 : c ≠ 32) : SX.free J p = true := by
  induction p with
  | nil => rfl
  | cons x r ih =>
    have hx : x ≠ 43 := fun z => hp (by rw [z]; simp)
    have hr : 43 ∉ r := fun z => hp (List.mem_cons_of_mem _ z)
    show (!(TL.pre J (x :: (r ++ J))) && SX.free J r) = true
    have h1 : TL.pre J (x :: (r ++ J)) = false := by
      cases e : TL.pre J (x :: (r ++ J)) with
      | false => rfl
      | true =>
        exfalso
        obtain ⟨b, hb⟩ := pre_J e
        cases r with
        | nil =>
          simp at hb hc
        | cons y r =>
          simp at hb
          exact hr (by rw [hb.2.1]; simp)
    rw [h1]
    cases r with
    | nil => rfl
    | cons y r => exact ih hr (by simpa [List.getLast?_cons_cons] using hc)
theorem last_app {a : List Nat} {n : List Nat} (hn : n ≠ []) : (a ++ n).getLast? = n.getLast? := by
  rw [List.getLast?_append]
  cases e : n.getLast? with
  | none => exact absurd (List.getLast?_eq_none_iff.mp e) hn
  | some c => rfl
theorem Pc.last (h : Pc d n) (a : List Nat) : ∃ c, (a ++ n).getLast? = some c ∧ c ≠ 32 := by
  rw [last_app h.n0]
  cases e : n.getLast? with
  | none => exact absurd (List.getLast?_eq_none_iff.mp e) h.n0
  | some c =>
    have := h.nm c (List.mem_of_getLast? e)
    exact ⟨c, rfl, by omega⟩
theorem Pc.free (h : Pc d n) {a : List Nat} (ha : 43 ∉ a) : SX.free J (a ++ n) = true := by
  obtain ⟨c, h1, h2⟩ := h.last a
  refine free_43 ?_ h1 h2
  simp only [List.mem_append, not_or]
  exact ⟨ha, h.n43⟩
theorem Pc.fr (h : Pc d n) : SX.free J (d ++ 32 :: n) = true := by
  have := h.free (a := d ++ [32]) (by simp only [List.mem_append, List.mem_singleton, not_or]; exact ⟨h.d43, by decide⟩)
  simpa using this
end
def Bad (z : Str) : Prop := ∀ ps, f_parse_line [.str z] ps = some (excT 1, ps)
def BadC (q : List Nat) : Prop := PieceOk (mk q) .none
def GoodC (q : List Nat) : Prop := ∃ p : Str × Int, q = pc p ∧ nameS p.1 = true ∧ 1 ≤ p.2 ∧ p.2 < 2 ^ 100
theorem bad_text {z : Str} {ps : List (List Nat)} {q : List Nat} (e : TL.tl z = TL.joinL J (ps ++ [q])) (hl : z.length ≤ 1000) (hn : ps.length ≤ 11) (hp : ∀ p ∈ ps, SX.free J p = true) (hq : ∀ i, i < q.length → TL.pre J (q.drop i) = false)
    (hx : ∀ w ∈ ps ++ [q], BadC w ∨ GoodC w) (hb : ∃ w ∈ ps ++ [q], BadC w) (hz : ps ++ [q] ≠ [[48]]) : Bad z := fun ps' => by
  have hs := split_of e hp hq
  refine parse_bad hl (fun z0 => hz ?_) hs (by rw [List.length_map, List.length_append]; simp; omega) (fun w hw => ?_) ?_ ps'
  · have e2 := hs
    rw [z0, show Txt.split (Str.ofString "0") joi = [Str.ofString "0"] from by decide +kernel] at e2
    have e3 := congrArg (List.map TL.tl) e2
    rw [List.map_map, show ((ps ++ [q]).map (TL.tl ∘ mk)) = ps ++ [q] from List.map_id'' (fun _ => rfl) _] at e3
    rw [← e3]
    decide +kernel
  · obtain ⟨c, hc, rfl⟩ := List.mem_map.mp hw
    rcases hx c hc with h | ⟨p, e1, h1, h2⟩
    · exact .inl h
    · exact .inr ⟨p, by rw [e1, ← pc_tl, mk_tl], h1, h2⟩
  · obtain ⟨w, hw, h⟩ := hb
    exact ⟨mk w, List.mem_map.mpr ⟨w, hw, rfl⟩, h⟩
theorem bad_one {z : Str} {q : List Nat} (e : TL.tl z = q) (hl : q.length ≤ 200) (hq : ∀ i, i < q.length → TL.pre J (q.drop i) = false) (h : BadC q) (h0 : q ≠ [48]) : Bad z :=
  bad_text (ps := []) (q := q) e (by rw [TL.len_tl, e]; omega) (by simp) (fun p hp => by cases hp) hq (fun w hw => .inl (by rw [List.mem_singleton.mp hw]; exact h)) ⟨q, by simp, h⟩ (fun z => h0 (by simpa using z))
section
variable {l : Ln}
abbrev pcs (l : Ln) : List (List Nat) := l.map pc
theorem tl_txt (hn : l ≠ []) : TL.tl (txt l) = TL.joinL J (pcs l) := by
  unfold txt
  rw [if_neg hn, TL.join_eq, TL.tl_join, tl_joi, List.map_map]
  congr 1
  exact List.map_congr_left fun p _ => pc_tl p
structure Lk (l : Ln) : Prop where
  ok : LnOk 100 l
  ne : l ≠ []
  le : l.length ≤ 6
theorem Lk.pc (h : Lk l) {p : Str × Int} (hp : p ∈ l) : Pc (pcd p) (pcn p) := pc_ok (h.ok.nm p hp) (h.ok.ps p hp)
theorem Lk.good (h : Lk l) : ∀ w ∈ pcs l, GoodC w := fun w hw => by
  obtain ⟨p, hp, rfl⟩ := List.mem_map.mp hw
  exact ⟨p, rfl, h.ok.nm p hp, h.ok.ps p hp⟩
theorem Lk.fr (h : Lk l) : ∀ w ∈ pcs l, SX.free J w = true := fun w hw => by
  obtain ⟨p, hp, rfl⟩ := List.mem_map.mp hw
  exact (h.pc hp).fr
theorem Lk.first (h : Lk l) : ∃ p r, l = p :: r := by
  cases l with
  | nil => exact absurd rfl h.ne
  | cons p r => exact ⟨p, r, rfl⟩
theorem Lk.last (h : Lk l) : ∃ r p, l = r ++ [p] := ⟨l.dropLast, l.getLast h.ne, (List.dropLast_concat_getLast h.ne).symm⟩
theorem Lk.tl (h : Lk l) : (txt l).length ≤ 400 := txt_len h.ok
theorem bad_last (h : Lk l) {b : List Nat} {z : Str} (e : TL.tl z = TL.tl (txt l) ++ b) (hb : b.length ≤ 50) (hq : ∀ d n, Pc d n → (∀ i, i < (d ++ 32 :: n ++ b).length → TL.pre J ((d ++ 32 :: n ++ b).drop i) = false) ∧ BadC (d ++ 32 :: n ++ b)) : Bad z := by
  obtain ⟨r, p, rfl⟩ := h.last
  have hpc : Pc (pcd p) (pcn p) := h.pc (by simp)
  obtain ⟨q1, q2⟩ := hq _ _ hpc
  have hle := h.le
  have hlt := h.tl
  rw [List.length_append] at hle
  refine bad_text (ps := pcs r) (q := pc p ++ b) ?_ ?_ (by rw [List.length_map]; simp at hle; omega) (fun w hw => ?_) q1 (fun w hw => ?_) ⟨pc p ++ b, by simp, q2⟩ (fun z0 => ?_)
  · rw [e, tl_txt h.ne, jl_last, pcs, List.map_append]
    rfl
  · rw [TL.len_tl, e, List.length_append, ← TL.len_tl]
    omega
  · exact h.fr w (by rw [pcs, List.map_append]; exact List.mem_append_left _ hw)
  · rcases List.mem_append.mp hw with hw | hw
    · exact .inr (h.good w (by rw [pcs, List.map_append]; exact List.mem_append_left _ hw))
    · exact .inl (by rw [List.mem_singleton.mp hw]; exact q2)
  · have h1 : pc p ++ b ∈ [[48]] := by rw [← z0]; simp
    have h2 : (32 : Nat) ∈ [48] := by rw [← List.mem_singleton.mp h1]; simp [W12.pc]
    simp at h2
theorem bad_first (h : Lk l) {a : List Nat} {z : Str} (e : TL.tl z = a ++ TL.tl (txt l)) (ha : a.length ≤ 50) (hq : ∀ d n, Pc d n → SX.free J (a ++ (d ++ 32 :: n)) = true ∧ (∀ i, i < (a ++ (d ++ 32 :: n)).length → TL.pre J ((a ++ (d ++ 32 :: n)).drop i) = false) ∧ BadC (a ++ (d ++ 32 :: n))) : Bad z := by
  obtain ⟨p, r, rfl⟩ := h.first
  have hpc : Pc (pcd p) (pcn p) := h.pc (by simp)
  obtain ⟨q1, q2, q3⟩ := hq _ _ hpc
  have hle := h.le
  have hlt := h.tl
  rw [List.length_cons] at hle
  have hlen : z.length ≤ 1000 := by
    rw [TL.len_tl, e, List.length_append, ← TL.len_tl (txt (p :: r))]
    omega
  have ez : TL.tl z = TL.joinL J ((a ++ W12.pc p) :: pcs r) := by rw [e, tl_txt h.ne, jl_head]; rfl
  have n48 : a ++ W12.pc p ≠ [48] := fun z0 => by
    have h2 : (32 : Nat) ∈ [48] := by rw [← z0]; simp [W12.pc]
    simp at h2
  rcases List.eq_nil_or_concat r with rfl | ⟨r', y, rfl⟩
  · exact bad_text (ps := []) (q := a ++ W12.pc p) ez hlen (by simp) (fun w hw => by cases hw) q2 (fun w hw => .inl (by rw [List.mem_singleton.mp hw]; exact q3)) ⟨a ++ W12.pc p, List.mem_singleton.mpr rfl, q3⟩ (fun z0 => n48 (by simpa using z0))
  · rw [List.concat_eq_append] at *
    have hy : Pc (pcd y) (pcn y) := h.pc (by simp)
    refine bad_text (ps := (a ++ W12.pc p) :: pcs r') (q := W12.pc y) (by rw [ez, pcs, List.map_append]; rfl) hlen ?_ (fun w hw => ?_) (nop_no hy.p43) (fun w hw => ?_) ⟨a ++ W12.pc p, List.mem_cons_self, q3⟩ (fun z0 => ?_)
    · rw [List.length_append] at hle
      rw [List.length_cons, List.length_map]
      simp at hle
      omega
    · rcases List.mem_cons.mp hw with rfl | hw
      · exact q1
      · exact h.fr w (by rw [pcs, List.map_cons, List.map_append]; exact List.mem_cons_of_mem _ (List.mem_append_left _ hw))
    · rw [List.cons_append] at hw
      rcases List.mem_cons.mp hw with rfl | hw
      · exact .inl q3
      · exact .inr (h.good w (by rw [pcs, List.map_cons, List.map_append]; exact List.mem_cons_of_mem _ hw))
    · have := congrArg List.length z0
      simp at this
end
end W12
set_option Elab.async false
set_option linter.all false
set_option maxRecDepth 100000
set_option maxHeartbeats 2000000
namespace W12
open PySem L2 DL PL
local instance : TBL := ⟨[], fun _ => 0, fun _ => [], fun _ => none, w00⟩
theorem nameS_no {l : List Nat} {c : Nat} (hc : c ∈ l) (h : ¬ (97 ≤ c ∧ c ≤ 122)) : nameS (mk l) = false := by
  cases e : nameS (mk l) with
  | false => rfl
  | true => exact absurd (name_range e c hc) h
section
variable {d n : List Nat}
theorem Pc.c0 (h : Pc d n) : 32 ∉ d := h.d32
theorem cnt_app (a b : List Nat) : (a ++ b).count 32 = a.count 32 + b.count 32 := List.count_append ..
theorem Pc.fra (h : Pc d n) {a : List Nat} (ha : 43 ∉ a) : SX.free J (a ++ (d ++ 32 :: n)) = true := by
  have := h.free (a := a ++ (d ++ [32])) (fun hm => by
    rcases List.mem_append.mp hm with hm | hm
    · exact ha hm
    · rcases List.mem_append.mp hm with hm | hm
      · exact h.d43 hm
      · simp at hm)
  simpa using this
theorem Pc.lt (h : Pc d n) : ∀ c ∈ n, c < 128 := fun c hc => by
  have := h.nm c hc
  omega
end
section
variable {l : Ln}
theorem b01 (h : Lk l) : Bad (Str.ofString " " ++ txt l) := bad_first h (a := [32]) (by rw [TL.tl_append, show TL.tl (Str.ofString " ") = [32] from by decide +kernel]) (by decide) fun d n p => by
  have h43 : 43 ∉ [32] ++ (d ++ 32 :: n) := by
    intro hm
    rcases List.mem_append.mp hm with hm | hm
    · simp at hm
    · exact p.p43 hm
  exact ⟨p.fra (by simp), nop_no h43, piece_cnt (by have := p.len; simp at *; omega) (by rw [cnt_app, p.cnt]; decide)⟩
theorem b02 (h : Lk l) : Bad (txt l ++ Str.ofString " ") := bad_last h (b := [32]) (by rw [TL.tl_append, show TL.tl (Str.ofString " ") = [32] from by decide +kernel]) (by decide) fun d n p => by
  refine ⟨nop_no ?_, piece_cnt (by have := p.len; simp at *; omega) (by rw [cnt_app, p.cnt]; decide)⟩
  intro hm
  rcases List.mem_append.mp hm with hm | hm
  · exact p.p43 hm
  · simp at hm
theorem b03 (h : Lk l) : Bad (txt l ++ Str.ofString "\n") := bad_last h (b := [10]) (by rw [TL.tl_append, show TL.tl (Str.ofString "\n") = [10] from by decide +kernel]) (by decide) fun d n p => by
  refine ⟨nop_no ?_, ?_⟩
  · intro hm
    rcases List.mem_append.mp hm with hm | hm
    · exact p.p43 hm
    · simp at hm
  · have e : d ++ 32 :: n ++ [10] = d ++ 32 :: (n ++ [10]) := by simp
    rw [e]
    refine piece_nm p.d32 ?_ ?_ ?_ (nameS_no (c := 10) (by simp) (by omega))
    · intro hm
      rcases List.mem_append.mp hm with hm | hm
      · exact p.n32 hm
      · simp at hm
    · have := p.dl
      have := p.nl
      simp
      omega
    · intro c hc
      rcases List.mem_append.mp hc with hc | hc
      · exact p.lt c hc
      · simp at hc
        omega
theorem b04 (h : Lk l) : Bad (txt l ++ Str.ofString " +") := bad_last h (b := [32, 43]) (by rw [TL.tl_append, show TL.tl (Str.ofString " +") = [32, 43] from by decide +kernel]) (by decide) fun d n p => by
  have e : d ++ 32 :: n ++ [32, 43] = (d ++ 32 :: n ++ [32]) ++ 43 :: [] := by simp
  refine ⟨?_, piece_cnt (by have := p.len; simp at *; omega) (by rw [cnt_app, p.cnt]; decide)⟩
  rw [e]
  refine nop_plus ?_ (by simp) (.inl (by simp))
  intro hm
  rcases List.mem_append.mp hm with hm | hm
  · exact p.p43 hm
  · simp at hm
theorem pcs_ne (h : Lk l) : pcs l ≠ [] := fun z => h.ne (List.map_eq_nil_iff.mp z)
theorem pcs_len (h : Lk l) : (pcs l).length ≤ 6 := by
  rw [List.length_map]
  exact h.le
theorem b05 (h : Lk l) : Bad (txt l ++ Str.ofString " + ") := by
  have q : BadC [] := piece_cnt (by simp) (by decide)
  refine bad_text (ps := pcs l) (q := []) ?_ ?_ (by have := pcs_len h; omega) h.fr (fun i hi => absurd hi (Nat.not_lt_zero _)) (fun w hw => ?_) ⟨[], by simp, q⟩ (fun z => ?_)
  · rw [TL.tl_append, show TL.tl (Str.ofString " + ") = J from by decide +kernel, tl_txt h.ne, jl_app (pcs_ne h) (by simp)]
    simp [TL.joinL]
  · have := h.tl
    rw [app_len, show (Str.ofString " + ").length = 3 from by decide +kernel]
    omega
  · rcases List.mem_append.mp hw with hw | hw
    · exact .inr (h.good w hw)
    · exact .inl (by rw [List.mem_singleton.mp hw]; exact q)
  · have := congrArg List.getLast? z
    simp at this
theorem b06 (h : Lk l) : Bad (Str.ofString "+ " ++ txt l) := bad_first h (a := [43, 32]) (by rw [TL.tl_append, show TL.tl (Str.ofString "+ ") = [43, 32] from by decide +kernel]) (by decide) fun d n p => by
  have h43 : 43 ∉ [32] ++ (d ++ 32 :: n) := by
    intro hm
    rcases List.mem_append.mp hm with hm | hm
    · simp at hm
    · exact p.p43 hm
  refine ⟨?_, ?_, piece_cnt (by have := p.len; simp at *; omega) (by rw [cnt_app, p.cnt]; decide)⟩
  · show (!(TL.pre J (43 :: _)) && SX.free J (32 :: (d ++ 32 :: n))) = true
    rw [TL.pre_of_head _ _ (by decide)]
    exact p.fra (a := [32]) (by simp)
  · exact nop_plus (u := []) (v := 32 :: (d ++ 32 :: n)) (by simp) (by simpa using h43) (.inr (by simp))
theorem b07 (h : Lk l) : Bad (Str.ofString "0" ++ txt l) := bad_first h (a := [48]) (by rw [TL.tl_append, show TL.tl (Str.ofString "0") = [48] from by decide +kernel]) (by decide) fun d n p => by
  have h43 : 43 ∉ [48] ++ (d ++ 32 :: n) := by
    intro hm
    rcases List.mem_append.mp hm with hm | hm
    · simp at hm
    · exact p.p43 hm
  refine ⟨p.fra (by simp), nop_no h43, ?_⟩
  · exact piece_nn (a := 48 :: d) (b := n) rfl (by have := p.d32; simp; exact this) (by have := p.dl; have := p.nl; simp; omega) p.ns (.inl rfl)
theorem b08 (h : Lk l) : Bad (txt l ++ Str.ofString " + 0") := by
  have q : BadC [48] := piece_cnt (by simp) (by decide)
  refine bad_text (ps := pcs l) (q := [48]) ?_ ?_ (by have := pcs_len h; omega) h.fr (nop_no (by simp)) (fun w hw => ?_) ⟨[48], by simp, q⟩ (fun z => ?_)
  · rw [TL.tl_append, show TL.tl (Str.ofString " + 0") = J ++ [48] from by decide +kernel, tl_txt h.ne, jl_app (pcs_ne h) (by simp)]
    rfl
  · have := h.tl
    rw [app_len, show (Str.ofString " + 0").length = 4 from by decide +kernel]
    omega
  · rcases List.mem_append.mp hw with hw | hw
    · exact .inr (h.good w hw)
    · exact .inl (by rw [List.mem_singleton.mp hw]; exact q)
  · have := congrArg List.length z
    simp at this
    exact h.ne this
theorem b09 : Bad (Str.ofString "1") := bad_one (q := [49]) (by decide +kernel) (by decide) (nop_no (by simp)) (piece_cnt (by simp) (by decide)) (by decide)
theorem split_pcs {m : Ln} (hm : m ≠ []) (hp : ∀ p ∈ m, nameS p.1 = true ∧ 1 ≤ p.2 ∧ p.2 < 2 ^ 100) {z : Str} (e : TL.tl z = TL.joinL J (pcs m)) : Txt.split z joi = m.map partS := by
  obtain ⟨r, y, rfl⟩ : ∃ r y, m = r ++ [y] := ⟨m.dropLast, m.getLast hm, (List.dropLast_concat_getLast hm).symm⟩
  rw [split_of (ps := pcs r) (q := pc y) (by rw [e, pcs, List.map_append]; rfl) (fun w hw => ?_) (nop_no (pc_ok (hp y (by simp)).1 (hp y (by simp)).2).p43)]
  · have e2 : pcs r ++ [pc y] = pcs (r ++ [y]) := by rw [pcs, pcs, List.map_append]; rfl
    rw [e2, List.map_map]
    exact List.map_congr_left fun p _ => by
      show mk (pc p) = _
      rw [← pc_tl, mk_tl]
  · obtain ⟨p, hp', rfl⟩ := List.mem_map.mp hw
    exact (pc_ok (hp p (by simp [hp'])).1 (hp p (by simp [hp'])).2).fr
theorem Lk.all (h : Lk l) : ∀ p ∈ l, nameS p.1 = true ∧ 1 ≤ p.2 ∧ p.2 < 2 ^ 100 := fun p hp => ⟨h.ok.nm p hp, h.ok.ps p hp⟩
theorem lt_irr (a : Str) : ltB a a = false := by
  unfold ltB
  exact decide_eq_false (List.lt_irrefl _)
theorem asc_dup (h : l ≠ []) : ascS ((l ++ l).map (·.1)) = false := by
  cases e : ascS ((l ++ l).map (·.1)) with
  | false => rfl
  | true =>
    exfalso
    rw [asc_pw, List.map_append, List.pairwise_append] at e
    cases l with
    | nil => exact h rfl
    | cons p r =>
      have := e.2.2 p.1 (by simp) p.1 (by simp)
      rw [lt_irr] at this
      cases this
theorem no_zero {z : Str} {m : Ln} (hm : m ≠ []) (hp : ∀ p ∈ m, nameS p.1 = true ∧ 1 ≤ p.2 ∧ p.2 < 2 ^ 100) (hs : Txt.split z joi = m.map partS) : z ≠ Str.ofString "0" := fun z0 => by
  rw [z0, show Txt.split (Str.ofString "0") joi = [Str.ofString "0"] from by decide +kernel] at hs
  have z2 : Str.ofString "0" ∈ m.map partS := by rw [← hs]; exact List.mem_singleton.mpr rfl
  obtain ⟨p, hp', z3⟩ := List.mem_map.mp z2
  have z4 := congrArg TL.tl z3
  rw [tl_part, show TL.tl (Str.ofString "0") = [48] from by decide +kernel] at z4
  have z5 : (32 : Nat) ∈ [48] := by rw [← z4]; simp
  simp at z5
theorem b10 (h : Lk l) : Bad (txt l ++ Str.ofString " + " ++ txt l) := fun ps => by
  have hp : ∀ p ∈ l ++ l, nameS p.1 = true ∧ 1 ≤ p.2 ∧ p.2 < 2 ^ 100 := fun p hp' => h.all p (by simpa using hp')
  have hne : l ++ l ≠ [] := by simp [h.ne]
  have hs : Txt.split (txt l ++ Str.ofString " + " ++ txt l) joi = (l ++ l).map partS := split_pcs hne hp (by
    rw [TL.tl_append, TL.tl_append, show TL.tl (Str.ofString " + ") = J from by decide +kernel, tl_txt h.ne, show pcs (l ++ l) = pcs l ++ pcs l from List.map_append, jl_app (pcs_ne h) (pcs_ne h), List.append_assoc])
  have hl := h.tl
  have hle := h.le
  rw [parse_ln (l := l ++ l) (by rw [app_len, app_len, show (Str.ofString " + ").length = 3 from by decide +kernel]; omega) (no_zero hne hp hs) hs (by rw [List.length_append]; omega) hp, asc_dup h.ne]
  rfl
def upC (c : Nat) : Nat := if 97 ≤ c ∧ c ≤ 122 then c - 32 else c
theorem tl_upper : ∀ (q : List Nat), (∀ c ∈ q, c < 128) → TL.tl (Txt.upper (mk q)) = q.map upC
  | [], _ => by decide +kernel
  | c :: r, h => by
    have e : mk (c :: r) = ⟨#[c]⟩ ++ mk r := TL.ext_tl (by rw [TL.tl_append, tl_mk, tl_mk]; rfl)
    have h1 : Txt.upper (⟨#[c]⟩ ++ mk r) = Txt.upper ⟨#[c]⟩ ++ Txt.upper (mk r) := PySem.W.KOpn.upper_app _ _
    rw [e, h1, TL.tl_append, PySem.W.KOpn.upper_one (h c List.mem_cons_self), tl_upper r fun y hy => h y (List.mem_cons_of_mem _ hy)]
    rfl
theorem jl_map (f : Nat → Nat) (hJ : J.map f = J) : ∀ ps : List (List Nat), (TL.joinL J ps).map f = TL.joinL J (ps.map (List.map f))
  | [] => rfl
  | [p] => rfl
  | p :: q :: r => by
    show (p ++ (J ++ TL.joinL J (q :: r))).map f = p.map f ++ (J ++ TL.joinL J ((q :: r).map (List.map f)))
    rw [List.map_append, List.map_append, hJ, jl_map f hJ (q :: r)]
theorem pc_lt {p : Str × Int} (h : Pc (pcd p) (pcn p)) : ∀ c ∈ pc p, c < 128 := fun c hc => by
  rcases List.mem_append.mp hc with hc | hc
  · have := h.dg c hc
    omega
  · rcases List.mem_cons.mp hc with rfl | hc
    · omega
    · have := h.nm c hc
      omega
theorem jl_lt {ps : List (List Nat)} (h : ∀ p ∈ ps, ∀ c ∈ p, c < 128) : ∀ c ∈ TL.joinL J ps, c < 128 := by
  induction ps with
  | nil => intro c hc; cases hc
  | cons p r ih =>
    intro c hc
    by_cases hr : r = []
    · subst hr
      exact h p List.mem_cons_self c hc
    · rw [jl_cons hr] at hc
      rcases List.mem_append.mp hc with hc | hc
      · exact h p List.mem_cons_self c hc
      · rcases List.mem_append.mp hc with hc | hc
        · simp at hc
          omega
        · exact ih (fun q hq => h q (List.mem_cons_of_mem _ hq)) c hc
theorem Lk.lt (h : Lk l) : ∀ c ∈ TL.tl (txt l), c < 128 := by
  rw [tl_txt h.ne]
  refine jl_lt fun w hw => ?_
  obtain ⟨p, hp, rfl⟩ := List.mem_map.mp hw
  exact pc_lt (h.pc hp)
theorem up_pc {d n : List Nat} (p : Pc d n) : (d ++ 32 :: n).map upC = d ++ 32 :: n.map upC := by
  rw [List.map_append, List.map_cons]
  congr 1
  conv => rhs; rw [← List.map_id d]
  exact List.map_congr_left fun c hc => by
    have := p.dg c hc
    unfold upC
    rw [if_neg (by omega)]
    rfl
theorem bad_all {z : Str} {ws : List (List Nat)} (hne : ws ≠ []) (e : TL.tl z = TL.joinL J ws) (hl : z.length ≤ 1000) (hn : ws.length ≤ 12) (hf : ∀ w ∈ ws, SX.free J w = true) (hg : ∀ w ∈ ws, ∀ i, i < w.length → TL.pre J (w.drop i) = false) (hb : ∀ w ∈ ws, BadC w) (h48 : [48] ∉ ws) : Bad z := by
  obtain ⟨r, y, rfl⟩ : ∃ r y, ws = r ++ [y] := ⟨ws.dropLast, ws.getLast hne, (List.dropLast_concat_getLast hne).symm⟩
  refine bad_text (ps := r) (q := y) e hl (by simp at hn; omega) (fun w hw => hf w (by simp [hw])) (hg y (by simp)) (fun w hw => .inl (hb w hw)) ⟨y, by simp, hb y (by simp)⟩ (fun z0 => h48 (by rw [z0]; simp))
theorem b11 (h : Lk l) : Bad (Txt.upper (txt l)) := by
  have e : TL.tl (Txt.upper (txt l)) = TL.joinL J (l.map fun p => pcd p ++ 32 :: (pcn p).map upC) := by
    have h1 := tl_upper (TL.tl (txt l)) h.lt
    rw [mk_tl] at h1
    rw [h1, tl_txt h.ne, jl_map upC (by decide), List.map_map]
    congr 1
    exact List.map_congr_left fun p hp => up_pc (h.pc hp)
  have hl : (Txt.upper (txt l)).length = (txt l).length := by
    have h1 := tl_upper (TL.tl (txt l)) h.lt
    rw [mk_tl] at h1
    rw [TL.len_tl, h1, List.length_map, ← TL.len_tl]
  have up : ∀ p ∈ l, ∀ c ∈ (pcn p).map upC, 65 ≤ c ∧ c ≤ 90 := fun p hp c hc => by
    obtain ⟨y, hy, rfl⟩ := List.mem_map.mp hc
    have := (h.pc hp).nm y hy
    unfold upC
    rw [if_pos this]
    omega
  have no43 : ∀ p ∈ l, 43 ∉ pcd p ++ 32 :: (pcn p).map upC := fun p hp hm => by
    rcases List.mem_append.mp hm with hm | hm
    · exact (h.pc hp).d43 hm
    · rcases List.mem_cons.mp hm with hm | hm
      · simp at hm
      · have := up p hp 43 hm
        omega
  have ne0 : ∀ p ∈ l, (pcn p).map upC ≠ [] := fun p hp z => (h.pc hp).n0 (List.map_eq_nil_iff.mp z)
  have hle := h.le
  have htl := h.tl
  refine bad_all (by simpa using h.ne) e (by omega) (by rw [List.length_map]; omega) (fun w hw => ?_) (fun w hw => ?_) (fun w hw => ?_) (fun hm => ?_)
  · obtain ⟨p, hp, rfl⟩ := List.mem_map.mp hw
    cases q : (pcn p).map upC with
    | nil => exact absurd q (ne0 p hp)
    | cons c r =>
      have hc : ∀ x ∈ c :: r, 65 ≤ x ∧ x ≤ 90 := by rw [← q]; exact up p hp
      refine free_part _ _ _ (fun x hx => ?_) ?_ (fun x hx => ?_)
      · have := (h.pc hp).dg x hx
        omega
      · have := hc c List.mem_cons_self
        omega
      · have := hc x hx
        omega
  · obtain ⟨p, hp, rfl⟩ := List.mem_map.mp hw
    exact nop_no (no43 p hp)
  · obtain ⟨p, hp, rfl⟩ := List.mem_map.mp hw
    have hh := h.pc hp
    refine piece_nm hh.d32 (fun hm => ?_) ?_ (fun c hc => ?_) ?_
    · have := up p hp 32 hm
      omega
    · have := hh.dl
      have := hh.nl
      rw [List.length_map]
      omega
    · have := up p hp c hc
      omega
    · cases q : (pcn p).map upC with
      | nil => exact absurd q (ne0 p hp)
      | cons c r =>
        refine nameS_no (c := c) (by simp) ?_
        have := up p hp c (by rw [q]; simp)
        omega
  · obtain ⟨p, hp, e2⟩ := List.mem_map.mp hm
    have : (32 : Nat) ∈ [48] := by rw [← e2]; simp
    simp at this
end
end W12
set_option Elab.async false
set_option linter.all false
set_option maxRecDepth 100000
set_option maxHeartbeats 2000000
namespace W12
open PySem L2 DL PL
local instance : TBL := ⟨[], fun _ => 0, fun _ => [], fun _ => none, w00⟩
def dbl : List Nat → List Nat
  | [] => []
  | c :: r => if c = 32 then 32 :: 32 :: dbl r else c :: dbl r
theorem repl_dbl : ∀ q : List Nat, StrLaws.replL [32] [32, 32] q = dbl q
  | [] => by rw [StrLaws.replL_nil]; rfl
  | c :: r => by
    by_cases h : c = 32
    · subst h
      rw [StrLaws.replL_hit (by simp) (by rfl)]
      show [32, 32] ++ StrLaws.replL [32] [32, 32] r = _
      rw [repl_dbl r, dbl, if_pos rfl]
      rfl
    · rw [StrLaws.replL_miss (by simpa using h), repl_dbl r, dbl, if_neg h]
theorem dbl_app : ∀ a b : List Nat, dbl (a ++ b) = dbl a ++ dbl b
  | [], _ => rfl
  | c :: r, b => by
    rw [List.cons_append, dbl, dbl_app r b, dbl]
    split <;> rfl
theorem dbl_no {q : List Nat} (h : 32 ∉ q) : dbl q = q := by
  induction q with
  | nil => rfl
  | cons c r ih =>
    rw [dbl, if_neg (fun z => h (by rw [z]; simp)), ih fun hm => h (List.mem_cons_of_mem _ hm)]
def repW : List (List Nat) → List (List Nat)
  | [] => []
  | [p] => [32 :: p]
  | p :: q :: r => (32 :: p ++ [32]) :: repW (q :: r)
theorem repW_ne {p : List Nat} {r : List (List Nat)} : repW (p :: r) ≠ [] := by
  cases r <;> simp [repW]
theorem dbl_J (x : List Nat) : dbl (J ++ x) = [32] ++ (J ++ ([32] ++ dbl x)) := by
  rw [dbl_app]
  rfl
theorem dbl_jl : ∀ (r : List (List Nat)), r ≠ [] → [32] ++ dbl (TL.joinL J r) = TL.joinL J (repW (r.map dbl))
  | [], h => absurd rfl h
  | [p], _ => rfl
  | p :: q :: r, _ => by
    have ih := dbl_jl (q :: r) (by simp)
    show [32] ++ dbl (p ++ (J ++ TL.joinL J (q :: r))) = TL.joinL J ((32 :: dbl p ++ [32]) :: repW ((q :: r).map dbl))
    rw [jl_cons (r := repW ((q :: r).map dbl)) (by rw [List.map_cons]; exact repW_ne), ← ih, dbl_app, dbl_J]
    simp only [List.append_assoc, List.cons_append, List.nil_append]
def repA : List (List Nat) → List (List Nat)
  | [] => []
  | [p] => [p]
  | p :: q :: r => (p ++ [32]) :: repW (q :: r)
theorem dbl_all : ∀ (r : List (List Nat)), r ≠ [] → dbl (TL.joinL J r) = TL.joinL J (repA (r.map dbl))
  | [], h => absurd rfl h
  | [p], _ => rfl
  | p :: q :: r, _ => by
    have ih := dbl_jl (q :: r) (by simp)
    show dbl (p ++ (J ++ TL.joinL J (q :: r))) = TL.joinL J ((dbl p ++ [32]) :: repW ((q :: r).map dbl))
    rw [jl_cons (r := repW ((q :: r).map dbl)) (by rw [List.map_cons]; exact repW_ne), ← ih, dbl_app, dbl_J]
    simp only [List.append_assoc, List.cons_append, List.nil_append]
def Wd (w : List Nat) : Prop := ∃ (a d n b : List Nat), Pc d n ∧ w = a ++ (d ++ 32 :: 32 :: n) ++ b ∧ (a = [] ∨ a = [32]) ∧ (b = [] ∨ b = [32])
theorem wd_W : ∀ (ps : List (List Nat)), (∀ q ∈ ps, ∃ d n, Pc d n ∧ q = d ++ 32 :: 32 :: n) → ∀ w ∈ repW ps, Wd w
  | [], _, w, hw => by cases hw
  | [p], h, w, hw => by
    obtain ⟨d, n, h1, rfl⟩ := h p (by simp)
    rw [List.mem_singleton.mp hw]
    exact ⟨[32], d, n, [], h1, by simp, .inr rfl, .inl rfl⟩
  | p :: q :: r, h, w, hw => by
    rcases List.mem_cons.mp hw with rfl | hw
    · obtain ⟨d, n, h1, rfl⟩ := h p (by simp)
      exact ⟨[32], d, n, [32], h1, by simp, .inr rfl, .inr rfl⟩
    · exact wd_W (q :: r) (fun z hz => h z (List.mem_cons_of_mem _ hz)) w hw
theorem wd_A : ∀ (ps : List (List Nat)), (∀ q ∈ ps, ∃ d n, Pc d n ∧ q = d ++ 32 :: 32 :: n) → ∀ w ∈ repA ps, Wd w
  | [], _, w, hw => by cases hw
  | [p], h, w, hw => by
    obtain ⟨d, n, h1, rfl⟩ := h p (by simp)
    rw [List.mem_singleton.mp hw]
    exact ⟨[], d, n, [], h1, by simp, .inl rfl, .inl rfl⟩
  | p :: q :: r, h, w, hw => by
    rcases List.mem_cons.mp hw with rfl | hw
    · obtain ⟨d, n, h1, rfl⟩ := h p (by simp)
      exact ⟨[], d, n, [32], h1, by simp, .inl rfl, .inr rfl⟩
    · exact wd_W (q :: r) (fun z hz => h z (List.mem_cons_of_mem _ hz)) w hw
theorem repW_len : ∀ ps : List (List Nat), (repW ps).length = ps.length
  | [] => rfl
  | [p] => rfl
  | p :: q :: r => by
    show (repW (q :: r)).length + 1 = _
    rw [repW_len (q :: r)]
    rfl
theorem repA_len : ∀ ps : List (List Nat), (repA ps).length = ps.length
  | [] => rfl
  | [p] => rfl
  | p :: q :: r => by
    show (repW (q :: r)).length + 1 = _
    rw [repW_len (q :: r)]
    rfl
theorem wd_43 {w : List Nat} (h : Wd w) : 43 ∉ w := by
  obtain ⟨a, d, n, b, p, rfl, ha, hb⟩ := h
  have h1 := p.d43
  have h2 := p.n43
  rcases ha with rfl | rfl <;> rcases hb with rfl | rfl <;> simp [h1, h2]
theorem wd_bad {w : List Nat} (h : Wd w) : BadC w := by
  obtain ⟨a, d, n, b, p, rfl, ha, hb⟩ := h
  refine piece_cnt ?_ ?_
  · have := p.dl
    have := p.nl
    rcases ha with rfl | rfl <;> rcases hb with rfl | rfl <;> simp <;> omega
  · rw [cnt_app, cnt_app, cnt_app, List.count_cons_self, List.count_cons_self]
    omega
theorem free_sp {p : List Nat} (hp : 43 ∉ p) : SX.free J (p ++ [32]) = true := by
  induction p with
  | nil => decide
  | cons x r ih =>
    have hr : 43 ∉ r := fun z => hp (List.mem_cons_of_mem _ z)
    show (!(TL.pre J (x :: (r ++ [32] ++ J))) && SX.free J (r ++ [32])) = true
    rw [ih hr, Bool.and_true, Bool.not_eq_true']
    cases e : TL.pre J (x :: (r ++ [32] ++ J)) with
    | false => rfl
    | true =>
      exfalso
      obtain ⟨b, hb⟩ := pre_J e
      cases r with
      | nil => simp at hb
      | cons y r =>
        simp at hb
        exact hr (by rw [hb.2.1]; simp)
theorem wd_free {w : List Nat} (h : Wd w) : SX.free J w = true := by
  have h43 := wd_43 h
  obtain ⟨a, d, n, b, p, rfl, ha, hb⟩ := h
  rcases hb with rfl | rfl
  · obtain ⟨c, h1, h2⟩ := p.last (a ++ (d ++ [32, 32]))
    refine free_43 h43 (c := c) ?_ h2
    rw [← h1]
    simp
  · exact free_sp fun hm => h43 (List.mem_append_left _ hm)
section
variable {l : Ln}
theorem b12 (h : Lk l) : Bad (Txt.replace (txt l) (Str.ofString " ") (Str.ofString "  ")) := by
  have e0 : TL.tl (Txt.replace (txt l) (Str.ofString " ") (Str.ofString "  ")) = dbl (TL.tl (txt l)) := by
    have := StrLaws.replace_list (x := txt l) (y := Str.ofString " ") (z := Str.ofString "  ") (by decide +kernel)
    show (Txt.replace _ _ _).cps.toList = _
    rw [this, show (Str.ofString " ").cps.toList = [32] from by decide +kernel, show (Str.ofString "  ").cps.toList = [32, 32] from by decide +kernel, repl_dbl]
  have e : TL.tl (Txt.replace (txt l) (Str.ofString " ") (Str.ofString "  ")) = TL.joinL J (repA ((pcs l).map dbl)) := by
    rw [e0, tl_txt h.ne, dbl_all _ (pcs_ne h)]
  have hd : ∀ q ∈ (pcs l).map dbl, ∃ d n, Pc d n ∧ q = d ++ 32 :: 32 :: n := fun q hq => by
    obtain ⟨w, hw, rfl⟩ := List.mem_map.mp hq
    obtain ⟨p, hp, rfl⟩ := List.mem_map.mp hw
    refine ⟨pcd p, pcn p, h.pc hp, ?_⟩
    unfold pc
    rw [dbl_app, dbl_no (h.pc hp).d32, dbl, if_pos rfl, dbl_no (h.pc hp).n32]
  have hw := wd_A _ hd
  have hlen : ∀ q : List Nat, (dbl q).length ≤ 2 * q.length := fun q => by
    induction q with
    | nil => simp [dbl]
    | cons c r ih =>
      rw [dbl]
      split <;> simp <;> omega
  have hl := h.tl
  have h2 := hlen (TL.tl (txt l))
  rw [← TL.len_tl] at h2
  have hle := h.le
  refine bad_all (fun z => ?_) e (by rw [TL.len_tl, e0]; omega) (by rw [repA_len, List.length_map, List.length_map]; omega) (fun w h => wd_free (hw w h)) (fun w h => nop_no (wd_43 (hw w h))) (fun w h => wd_bad (hw w h)) (fun hm => ?_)
  · have := congrArg List.length z
    rw [repA_len, List.length_map] at this
    exact pcs_ne h (List.eq_nil_of_length_eq_zero this)
  · obtain ⟨a, d, n, b, p, z, ha, hb⟩ := hw _ hm
    have : (32 : Nat) ∈ [48] := by rw [z]; simp
    simp at this
structure Nk (z : Str) : Prop where
  ns : nameS z = true
def nc (z : Str) : List Nat := TL.tl z
theorem nc_len (z : Str) : (nc z).length = z.length := (TL.len_tl z).symm
theorem Nk.rg {z : Str} (h : Nk z) : ∀ c ∈ nc z, 97 ≤ c ∧ c ≤ 122 := name_range h.ns
theorem Nk.len {z : Str} (h : Nk z) : (nc z).length ≤ 8 := by
  rw [nc_len]
  exact (name_parts h.ns).2.1
theorem Nk.ne {z : Str} (h : Nk z) : nc z ≠ [] := fun e => by
  have := (name_parts h.ns).1
  rw [← nc_len, e] at this
  exact absurd this (by decide)
theorem Nk.no {z : Str} (h : Nk z) {c : Nat} (hc : ¬ (97 ≤ c ∧ c ≤ 122)) : c ∉ nc z := fun hm => hc (h.rg c hm)
theorem Nk.mk' {z : Str} (h : Nk z) : nameS (W12.mk (nc z)) = true := by
  show nameS (W12.mk (TL.tl z)) = true
  rw [mk_tl]
  exact h.ns
variable {z : Str}
theorem no43 (h : Nk z) {a : List Nat} (ha : 43 ∉ a) : 43 ∉ a ++ nc z := fun hm => by
  rcases List.mem_append.mp hm with hm | hm
  · exact ha hm
  · exact h.no (by omega) hm
theorem bnn (h : Nk z) {s : String} {a r : List Nat} {c : Nat} (hs : TL.tl (Str.ofString s) = a ++ [32]) (ea : a = c :: r) (ha : 32 ∉ a) (h43 : 43 ∉ a) (hl : a.length ≤ 10) (hc : c = 48 ∨ ∃ y ∈ c :: r, ¬ (48 ≤ y ∧ y ≤ 57)) : Bad (Str.ofString s ++ z) := by
  have e : TL.tl (Str.ofString s ++ z) = a ++ 32 :: nc z := by
    rw [TL.tl_append, hs]
    show a ++ [32] ++ nc z = _
    simp
  have h8 := h.len
  refine bad_one e (by simp; omega) (nop_no ?_) (piece_nn ea ha (by omega) h.mk' hc) (fun z0 => ?_)
  · have := no43 h (a := a ++ [32]) (by simp [h43])
    simpa using this
  · have := congrArg (fun l : List Nat => 32 ∈ l) z0
    simp at this
theorem b13 (h : Nk z) : Bad (Str.ofString "0 " ++ z) := bnn h (a := [48]) (by decide +kernel) rfl (by simp) (by simp) (by simp) (.inl rfl)
theorem b14 (h : Nk z) : Bad z := by
  have h8 := h.len
  refine bad_one (q := nc z) rfl (by omega) (nop_no (h.no (by omega))) (piece_cnt (by omega) ?_) (fun z0 => ?_)
  · rw [List.count_eq_zero.mpr (h.no (by omega))]
    decide
  · have := h.rg 48 (by rw [z0]; simp)
    omega
theorem b15 : Bad (Str.ofString "") := bad_one (q := []) (by decide +kernel) (by decide) (nop_no (by simp)) (piece_cnt (by simp) (by decide)) (by decide)
theorem b16 : Bad (Str.ofString " ") := bad_one (q := [32]) (by decide +kernel) (by decide) (nop_no (by simp)) (piece_nm (a := []) (b := []) (by simp) (by simp) (by simp) (by simp) (by decide +kernel)) (by decide)
theorem b17 : Bad (Str.ofString "00") := bad_one (q := [48, 48]) (by decide +kernel) (by decide) (nop_no (by simp)) (piece_cnt (by simp) (by decide)) (by decide)
theorem b18 (h : Lk l) : Bad (Str.ofString "0 + " ++ txt l) := by
  have q : BadC [48] := piece_cnt (by simp) (by decide)
  obtain ⟨r, p, rfl⟩ := h.last
  have hpc : Pc (pcd p) (pcn p) := h.pc (by simp)
  have hle := h.le
  rw [List.length_append] at hle
  refine bad_text (ps := [48] :: pcs r) (q := pc p) ?_ ?_ (by rw [List.length_cons, List.length_map]; simp at hle; omega) (fun w hw => ?_) (nop_no hpc.p43) (fun w hw => ?_) ⟨[48], by simp, q⟩ (fun z => ?_)
  · rw [TL.tl_append, show TL.tl (Str.ofString "0 + ") = [48] ++ J from by decide +kernel, tl_txt h.ne, pcs, List.map_append]
    show _ = TL.joinL J ([48] :: (pcs r ++ [pc p]))
    rw [jl_cons (by simp), List.append_assoc]
    rfl
  · have := h.tl
    rw [app_len, show (Str.ofString "0 + ").length = 4 from by decide +kernel]
    omega
  · rcases List.mem_cons.mp hw with rfl | hw
    · decide
    · exact h.fr w (by rw [pcs, List.map_append]; exact List.mem_append_left _ hw)
  · rw [List.cons_append] at hw
    rcases List.mem_cons.mp hw with rfl | hw
    · exact .inl q
    · exact .inr (h.good w (by rw [pcs, List.map_append]; exact hw))
  · have := congrArg List.length z
    simp at this
theorem b19 (h : Nk z) : Bad (Str.ofString "-1 " ++ z) := bnn h (a := [45, 49]) (by decide +kernel) rfl (by simp) (by simp) (by simp) (.inr ⟨45, by simp, by omega⟩)
theorem b20 : Bad (Str.ofString "1 abcdefghi") := bad_one (q := [49] ++ 32 :: [97, 98, 99, 100, 101, 102, 103, 104, 105]) (by decide +kernel) (by decide) (nop_no (by simp)) (piece_nm (by simp) (by simp) (by simp) (by simp) (by decide +kernel)) (by decide)
theorem b21 : Bad (Str.ofString "1 take") := bad_one (q := [49] ++ 32 :: [116, 97, 107, 101]) (by decide +kernel) (by decide) (nop_no (by simp)) (piece_nm (by simp) (by simp) (by simp) (by simp) (by decide +kernel)) (by decide)
theorem b22 (h : Nk z) : Bad (Str.ofString "1 " ++ z ++ Str.ofString "+1 " ++ z ++ Str.ofString "z") := by
  have e : TL.tl (Str.ofString "1 " ++ z ++ Str.ofString "+1 " ++ z ++ Str.ofString "z") = ([49, 32] ++ nc z) ++ 43 :: ([49, 32] ++ nc z ++ [122]) := by
    rw [TL.tl_append, TL.tl_append, TL.tl_append, TL.tl_append, show TL.tl (Str.ofString "1 ") = [49, 32] from by decide +kernel, show TL.tl (Str.ofString "+1 ") = [43, 49, 32] from by decide +kernel, show TL.tl (Str.ofString "z") = [122] from by decide +kernel]
    show [49, 32] ++ nc z ++ [43, 49, 32] ++ nc z ++ [122] = _
    simp
  have h8 := h.len
  have h32 := h.no (c := 32) (by omega)
  have h43 := h.no (c := 43) (by omega)
  refine bad_one e (by simp; omega) (nop_plus ?_ ?_ (.inl (by simp))) (piece_cnt (by simp; omega) ?_) (fun z0 => ?_)
  · exact no43 h (by simp)
  · simp [h43]
  · simp [List.count_cons, List.count_append, List.count_eq_zero.mpr h32]
  · have := congrArg (fun l : List Nat => 32 ∈ l) z0
    simp at this
theorem b23 (h : Nk z) : Bad (Str.ofString "1_0 " ++ z) := bnn h (a := [49, 95, 48]) (by decide +kernel) rfl (by simp) (by simp) (by simp) (.inr ⟨95, by simp, by omega⟩)
theorem b24 (h : Nk z) : Bad (z ++ Str.ofString " 1") := by
  have e : TL.tl (z ++ Str.ofString " 1") = nc z ++ 32 :: [49] := by
    rw [TL.tl_append, show TL.tl (Str.ofString " 1") = [32, 49] from by decide +kernel]
    rfl
  have h8 := h.len
  have h43 := h.no (c := 43) (by omega)
  refine bad_one e (by simp; omega) (nop_no (by simp [h43])) (piece_nm (h.no (by omega)) (by simp) (by simp; omega) (by simp) (by decide +kernel)) (fun z0 => ?_)
  have := congrArg (fun l : List Nat => 32 ∈ l) z0
  simp at this
theorem asc_rev (h : ascS (l.map (·.1)) = true) (h2 : 2 ≤ l.length) : ascS (l.reverse.map (·.1)) = false := by
  cases e : ascS (l.reverse.map (·.1)) with
  | false => rfl
  | true =>
    exfalso
    rw [asc_pw, List.map_reverse, List.pairwise_reverse] at e
    rw [asc_pw] at h
    match l, h2, h, e with
    | p :: q :: r, _, h, e =>
      have h1 : ltB p.1 q.1 = true := (List.pairwise_cons.mp h).1 q.1 (by simp)
      have h3 : ltB q.1 p.1 = true := (List.pairwise_cons.mp e).1 q.1 (by simp)
      unfold ltB at h1 h3
      exact List.lt_asymm (of_decide_eq_true h1) (of_decide_eq_true h3)
theorem b25 (h : Lk l) (h2 : 2 ≤ l.length) : Bad (Txt.join joi (l.reverse.map partS)) := fun ps => by
  have hp : ∀ p ∈ l.reverse, nameS p.1 = true ∧ 1 ≤ p.2 ∧ p.2 < 2 ^ 100 := fun p hp' => h.all p (by simpa using hp')
  have hne : l.reverse ≠ [] := by simp [h.ne]
  have e : TL.tl (Txt.join joi (l.reverse.map partS)) = TL.joinL J (pcs l.reverse) := by
    rw [TL.join_eq, TL.tl_join, tl_joi, List.map_map]
    congr 1
    exact List.map_congr_left fun p _ => pc_tl p
  have hs : Txt.split (Txt.join joi (l.reverse.map partS)) joi = l.reverse.map partS := split_pcs hne hp e
  have hle := h.le
  have hl : (Txt.join joi (l.reverse.map partS)).length ≤ 1000 := by
    have : ∀ ps : List (List Nat), (∀ q ∈ ps, q.length ≤ 40) → (TL.joinL J ps).length ≤ ps.length * 43 := by
      intro ps
      induction ps with
      | nil => intro _; decide
      | cons q r ih =>
        intro hq
        have h1 := hq q (by simp)
        have h2 := ih fun y hy => hq y (List.mem_cons_of_mem _ hy)
        by_cases hr : r = []
        · subst hr
          show q.length ≤ 1 * 43
          omega
        · rw [jl_cons hr]
          simp at h2 ⊢
          omega
    have h3 := this (pcs l.reverse) fun q hq => by
      obtain ⟨p, hp', rfl⟩ := List.mem_map.mp hq
      exact (h.pc (by simpa using hp')).len
    rw [TL.len_tl, e]
    rw [List.length_map, List.length_reverse] at h3
    omega
  rw [parse_ln hl (no_zero hne hp hs) hs (by rw [List.length_reverse]; omega) hp, asc_rev h.ok.asc h2]
  rfl
end
end W12
set_option Elab.async false
set_option linter.all false
set_option maxRecDepth 100000
set_option maxHeartbeats 4000000
namespace W12
open PySem L2 DL PL
local instance : TBL := ⟨[], fun _ => 0, fun _ => [], fun _ => none, w00⟩
theorem okS_str (s : String) : okS (Str.ofString s) := fun c hc => by
  rw [TL.tl_ofString] at hc
  obtain ⟨ch, _, rfl⟩ := List.mem_map.mp hc
  have h := ch.valid
  show ch.val.toNat < 1114112
  rcases h with h | ⟨_, h⟩ <;> omega
theorem okS_from {a : Str} : ∀ {ts : List Str} (k : Nat) (acc : Str), okS acc → (∀ t ∈ ts, okS t) → okS (textFrom k acc ts)
  | [], k, acc, ha, _ => ha
  | t :: ts, k, acc, ha, h => by
    unfold textFrom
    refine okS_from (a := a) _ _ ?_ fun z hz => h z (List.mem_cons_of_mem _ hz)
    first
    | exact okS_app (okS_app ha (by split <;> first | exact okS_lit (by decide +kernel) | exact fun c hc => by cases hc)) (h t List.mem_cons_self)
    | (split <;> first | exact okS_app (okS_app ha (okS_lit (by decide +kernel))) (h t List.mem_cons_self) | exact okS_app ha (h t List.mem_cons_self))
theorem okS_list {ts : List Str} (h : ∀ t ∈ ts, okS t) : okS (listText ts) := okS_app (okS_from (a := Str.empty) _ _ (okS_lit (by decide +kernel)) h) (okS_lit (by decide +kernel))
theorem okS_dict {ts : List Str} (h : ∀ t ∈ ts, okS t) : okS (dictText ts) := okS_app (okS_app (okS_lit (by decide +kernel)) (okS_join (okS_lit (by decide +kernel)) h)) (okS_lit (by decide +kernel))
theorem chr39 : ∀ c, c < 128 → (Builtin.Str.reprChar 39 c).all (fun x => decide (x < 1114112)) = true := by decide +kernel
theorem chr34 : ∀ c, c < 128 → (Builtin.Str.reprChar 34 c).all (fun x => decide (x < 1114112)) = true := by decide +kernel
theorem okS_repr {z : Str} (h : ∀ c ∈ TL.tl z, c < 128) : okS (reprText z) := by
  have hq : reprQuote z = 39 ∨ reprQuote z = 34 := by
    unfold reprQuote
    split
    · exact .inr rfl
    · exact .inl rfl
  have hc0 : ∀ c, c < 128 → ∀ x ∈ Builtin.Str.reprChar (reprQuote z) c, x < 1114112 := fun c hc x hx => by
    rcases hq with e | e
    · rw [e] at hx
      exact of_decide_eq_true (List.all_eq_true.mp (chr39 c hc) x hx)
    · rw [e] at hx
      exact of_decide_eq_true (List.all_eq_true.mp (chr34 c hc) x hx)
  intro c hc
  have hc2 : c ∈ (reprText z).cps := by
    have : c ∈ (reprText z).cps.toList := hc
    simpa using this
  unfold reprText at hc2
  rw [← Array.foldl_toList] at hc2
  have key : ∀ (l : List Nat) (acc : Array Nat), (∀ x ∈ l, x < 128) → (∀ x ∈ acc, x < 1114112) → ∀ x ∈ l.foldl (fun out c => out ++ (Builtin.Str.reprChar (reprQuote z) c).toArray) acc, x < 1114112 := by
    intro l
    induction l with
    | nil => intro acc _ ha; exact ha
    | cons y r ih =>
      intro acc hl ha
      refine ih _ (fun x hx => hl x (List.mem_cons_of_mem _ hx)) fun x hx => ?_
      rcases Array.mem_append.mp hx with hx | hx
      · exact ha x hx
      · exact hc0 y (hl y List.mem_cons_self) x (by simpa using hx)
  rcases Array.mem_push.mp hc2 with hx | hx
  · exact key z.cps.toList #[reprQuote z] h (fun x hx => by
      have : x = reprQuote z := by simpa using hx
      rcases hq with e | e <;> omega) c hx
  · rcases hq with e | e <;> omega
mutual
def okD : PyData → Bool
  | .str z => z.cps.toList.all fun c => decide (c < 128)
  | .list ds => okDs ds
  | .tuple ds => okDs ds
  | .dict es => okDe es
  | .none => true
  | .bool _ => true
  | .int _ => true
def okDs : List PyData → Bool
  | [] => true
  | d :: r => okD d && okDs r
def okDe : List (PyData × PyData) → Bool
  | [] => true
  | (k, d) :: r => okD k && okD d && okDe r
end
theorem okDs_iff : ∀ {ds : List PyData}, okDs ds = true ↔ ∀ d ∈ ds, okD d = true
  | [] => by simp [okDs]
  | d :: r => by
    rw [okDs, Bool.and_eq_true, okDs_iff]
    simp
mutual
theorem shown_ok : ∀ d : PyData, okD d = true → okS d.shown
  | .str z, h => by
    rw [PyData.shown]
    rw [okD, List.all_eq_true] at h
    exact okS_repr fun c hc => of_decide_eq_true (h c hc)
  | .list ds, h => by
    rw [PyData.shown]
    rw [okD] at h
    exact okS_list (shown_oks ds h)
  | .tuple ds, h => by
    rw [PyData.shown]
    rw [okD] at h
    exact okS_tup (shown_oks ds h)
  | .dict es, h => by
    rw [PyData.shown]
    rw [okD] at h
    exact okS_dict (shown_oke es h)
  | .none, _ => by
    rw [PyData.shown]
    exact okS_lit (by decide +kernel)
  | .bool b, _ => by
    rw [PyData.shown]
    cases b <;> exact okS_lit (by decide +kernel)
  | .int i, _ => by
    rw [PyData.shown]
    exact okS_str _
theorem shown_oks : ∀ ds : List PyData, okDs ds = true → ∀ t ∈ PyData.shownAll ds, okS t
  | [], _, t, ht => by
    rw [PyData.shownAll] at ht
    cases ht
  | d :: r, h, t, ht => by
    rw [PyData.shownAll] at ht
    rw [okDs, Bool.and_eq_true] at h
    rcases List.mem_cons.mp ht with rfl | ht
    · exact shown_ok d h.1
    · exact shown_oks r h.2 t ht
theorem shown_oke : ∀ es : List (PyData × PyData), okDe es = true → ∀ t ∈ PyData.shownKv es, okS t
  | [], _, t, ht => by
    rw [PyData.shownKv] at ht
    cases ht
  | (k, d) :: r, h, t, ht => by
    rw [PyData.shownKv] at ht
    rw [okDe, Bool.and_eq_true, Bool.and_eq_true] at h
    rcases List.mem_cons.mp ht with rfl | ht
    · exact okS_app (okS_app (shown_ok k h.1.1) (okS_lit (by decide +kernel))) (shown_ok d h.1.2)
    · exact shown_oke r h.2 t ht
end
theorem strOk_shown {d : PyData} (h : okD d = true) : PyData.strOk d.shown = true := strOk_of (shown_ok d h)
theorem okD_name {z : Str} (h : nameS z = true) : okD (.str z) = true := by
  rw [okD, List.all_eq_true]
  intro c hc
  have := name_range h c hc
  exact decide_eq_true (by omega)
theorem okD_line {l : Ln} (h : ∀ p ∈ l, nameS p.1 = true) : okD (encL l) = true := by
  show okD (.tuple (l.map encP)) = true
  rw [okD, okDs_iff]
  intro d hd
  obtain ⟨p, hp, rfl⟩ := List.mem_map.mp hd
  show okD (.tuple [.str p.1, .int p.2]) = true
  rw [okD, okDs, okDs, okDs, okD_name (h p hp)]
  rfl
theorem okD_lst {ds : List PyData} (h : ∀ d ∈ ds, okD d = true) : okD (.list ds) = true := by
  rw [okD, okDs_iff]
  exact h
theorem read_ok {d x z : PyData} {ps p : Pt} (h : f_parse_line [d] ps = some (x, p)) (he : excOf x = none) (hr : reprD (.list [.str (Str.ofString "read"), x]) = some z) : f__law_read [d] ps = some (z, p) := by
  apply run_rt
  show g__law_read [.dat d, .un] ps = _
  unfold g__law_read sTryR
  rw [eCall_at (aCons_one (g1 := eVar 0) (S0 := [.dat d, .un]) (x := d) rfl) h, bindP_some]
  simp only [he, hr]
  rfl
theorem read_exc {d : PyData} {i : Int} {ps p : Pt} (h : f_parse_line [d] ps = some (excT i, p)) (hi : i.natAbs.log2 < 1000) : f__law_read [d] ps = some (.str (PyData.list [.str (Str.ofString "text"), .int i]).shown, p) := by
  apply run_rt
  show g__law_read [.dat d, .un] ps = _
  unfold g__law_read sTryR
  rw [eCall_at (aCons_one (g1 := eVar 0) (S0 := [.dat d, .un]) (x := d) rfl) h, bindP_some]
  unfold excT
  rw [excOf_excD]
  have e : firstH sub__law_read hl__law_read (Str.ofString "InvalidText") [(Str.ofString "line", .int i)] = some (.str (PyData.list [.str (Str.ofString "text"), .int i]).shown) := by
    have hs : sub__law_read (Str.ofString "InvalidText") (Str.ofString "InvalidText") = true := by decide +kernel
    unfold hl__law_read firstH
    rw [hs, if_pos rfl]
    unfold hRep
    rw [if_pos rfl, look1]
    exact repr_list (ds := [.str (Str.ofString "text"), .int i]) (by simp) fun y hy => by
      rcases List.mem_cons.mp hy with rfl | hy
      · exact ⟨asc_wf ⟨by decide +kernel, by decide +kernel⟩, by rw [PyData.depth]; decide⟩
      · rw [List.mem_singleton.mp hy]
        exact wf_int hi
  have e2 : rs__law_read.contains (Str.ofString "InvalidText") = true := by decide +kernel
  simp only [e2, if_true, e]
  rfl
theorem parse_none {d : PyData} (h : wf 12 d = true) (hs : isS d = false) (ps : Pt) : f_parse_line [d] ps = some (excT 0, ps) := by
  apply run_rt
  show g_parse_line [.dat d, .un, .un] ps = _
  unfold g_parse_line
  have e := isi_str h
  rw [hs] at e
  refine sSeq_rt (d := excT 0) (p := ps) ?_
  rw [sIf_at (bNot_at (asB_at (eUn_at (g := eVar 0) rfl e)))]
  exact raise1_at rfl
theorem parse_zero (ps : Pt) : f_parse_line [.str (Str.ofString "0")] ps = some (.tuple [], ps) := by
  apply run_rt
  show g_parse_line [.dat (.str (Str.ofString "0")), .un, .un] ps = _
  unfold g_parse_line
  rw [sSeq_nx (S1 := [.dat (.str (Str.ofString "0")), .un, .un]) (p := ps) (by rw [sIf_at (bNot_at (asB_at (eUn_at rfl (isi_str_at _))))]; rfl)]
  have e0 : eqD (.str (Str.ofString "0")) k_NOTHING = some (.bool true) := by
    show orD eqS eqD0 (.str (Str.ofString "0")) (.str (Str.ofString "0")) = _
    simp [orD, eqS]
  refine sSeq_rt ?_
  rw [sIf_at (asB_at (eOp_at (g := eVar 0) rfl rfl e0))]
  rfl
theorem parse_txt {l : Ln} (h : Lk l) (ps : Pt) : f_parse_line [.str (txt l)] ps = some (encL l, ps) := by
  have hl := h.tl
  have hle := h.le
  rw [parse_ln (by omega) (no_zero h.ne h.all (split_txt h.ok h.ne)) (split_txt h.ok h.ne) (by omega) h.all, h.ok.asc]
  rfl
theorem repr_two {s : String} {d : PyData} (hs : Asc (Str.ofString s)) (h : wf 12 d = true) (hd : d.depth ≤ 2) : reprD (.list [.str (Str.ofString s), d]) = some (.str (PyData.list [.str (Str.ofString s), d]).shown) :=
  repr_list (ds := [.str (Str.ofString s), d]) (by simp) fun y hy => by
    rcases List.mem_cons.mp hy with rfl | hy
    · exact ⟨asc_wf hs, by rw [PyData.depth]; decide⟩
    · rw [List.mem_singleton.mp hy]
      exact ⟨h, hd⟩
structure Fr (zs : List Str) : Prop where
  ok : FrOk zs
  ne : zs ≠ []
theorem strOk_name {z : Str} (h : nameS z = true) : PyData.strOk z = true := strOk_of fun c hc => by
  have := name_range h c hc
  omega
theorem line_dr {zs : List Str} (hz : Fr zs) {ps : Pt} (hp : POk ps) : ∃ (l : Ln) (p' : Pt), POk p' ∧ Lk l ∧ (∀ p ∈ l, p.1 ∈ zs) ∧ f__law_line [potD, .list (zs.map .str)] ps = some (encL l, p') := by
  have hle := hz.ok.len
  obtain ⟨ys, p1, ok1, hne, hsub, e1⟩ := some_k (n := ps.2.2) (zs := zs) hz.ne (by omega) ⟨hp, rfl⟩
  have hlen := hsub.length_le
  have hperm := List.mergeSort_perm ys leS
  have a1 : iOf (eCB (one sortSD) (aCons (eCall f__law_some (aCons (eVar 0) (aCons (eVar 1) (aCons (eC (.int 1)) aNil)))) aNil)) [.dat potD, .dat (.list (zs.map .str)), .un] ps = some ((ys.mergeSort leS).map .str, p1) := by
    unfold iOf
    have e0 : eCall f__law_some (aCons (eVar 0) (aCons (eVar 1) (aCons (eC (.int 1)) aNil))) [.dat potD, .dat (.list (zs.map .str)), .un] ps = some (.list (ys.map .str), p1) := eCall_at (a3_at rfl rfl rfl) e1
    rw [eCB_at (aCons_one e0) (sort_strs (by omega)), bindP_some]
    rfl
  obtain ⟨rs, p2, ok2, hr, e2⟩ := lc_relp (e := PyData.str) (R := RN) (it := iOf (eCB (one sortSD) (aCons (eCall f__law_some (aCons (eVar 0) (aCons (eVar 1) (aCons (eC (.int 1)) aNil)))) aNil))) (t := tName 2) (elt := eTup (aCons (eVar 2) (aCons (eOp addD (eC (.int 1)) (eCall f__law_draw (aCons (eVar 0) (aCons (eC (.int 40)) aNil)))) aNil))) (vs := [2]) (S0 := [.dat potD, .dat (.list (zs.map .str)), .un]) (ps := ps) (p1 := p1) (xs := ys.mergeSort leS) a1 ok1.pok (by rw [List.length_mergeSort]; omega) fun z _ p okp => by
    obtain ⟨v, p', okp', v0, v1, e⟩ := draw_at (S0 := [.dat potD, .dat (.list (zs.map .str)), .dat (.str z)]) (ps := p) 40 rfl (by decide) (by decide) okp
    refine ⟨encP (z, 1 + v), p', okp', ⟨1 + v, rfl, by omega, by
      have : (40 : Int) < 2 ^ 100 := by decide
      omega⟩, ?_⟩
    refine lcS_dr (S1 := [.dat potD, .dat (.list (zs.map .str)), .dat (.str z)]) rfl ?_
    exact tup2_at rfl (eOp_at rfl e (add_ii 1 v))
  obtain ⟨l, rfl, e3, e4⟩ := rn_line hr
  have hmem : ∀ p ∈ l, p.1 ∈ ys := fun p hp => by
    have : p.1 ∈ ys.mergeSort leS := by rw [← e3]; exact List.mem_map.mpr ⟨p, hp, rfl⟩
    exact hperm.mem_iff.mp this
  have hll : l.length = ys.length := by
    have := congrArg List.length e3
    rw [List.length_map, List.length_mergeSort] at this
    exact this
  refine ⟨l, p2, ok2, ⟨⟨fun p hp => hz.ok.nm _ (hsub.subset (hmem p hp)), e4, ?_, by omega⟩, ?_, by omega⟩, fun p hp => hsub.subset (hmem p hp), ?_⟩
  · rw [e3]
    exact sort_asc (hz.ok.nd.sublist hsub)
  · intro z
    rw [z] at hll
    exact hne (List.eq_nil_of_length_eq_zero hll.symm)
  · apply run_rt
    show g__law_line [.dat potD, .dat (.list (zs.map .str)), .un] ps = _
    unfold g__law_line
    exact sRet_at (eCB_at (aCons_one e2) rfl)
end W12
set_option Elab.async false
set_option linter.all false
set_option maxRecDepth 100000
set_option maxHeartbeats 4000000
namespace W12
open PySem L2 DL PL
local instance : TBL := ⟨[], fun _ => 0, fun _ => [], fun _ => none, w00⟩
theorem fit_at {gs : AG} {S : Sd} {ps p : Pt} {ds : List PyData} (h : gs S ps = some (ds, p)) (hl : ds.length ≤ 1000) : aFit gs S ps = some (ds, p) := by
  unfold aFit
  rw [h, bindP_some, if_pos (fits_of hl)]
theorem cat_own {i : Nat} {gs : AG} {S : Sd} {ps p : Pt} {xs ys : List PyData} (h0 : S[i]? = some (.own (.list xs))) (h : gs S ps = some (ys, p)) (hl : xs.length + ys.length ≤ 1000) : aCat (aOwn i) gs S ps = some (xs ++ ys, p) := by
  unfold aCat aOwn
  rw [h0]
  simp only [bindP_some, h]
  rw [if_pos (decide_eq_true (by omega))]
theorem seq_asg {t : Tgt} {g : EG} {b : SG} {S S1 : Sd} {ps p : Pt} {d : PyData} {R : Option (OutS × Pt)} (h : g S ps = some (d, p)) (ht : t d S = some S1) (hb : b S1 p = R) : sSeq (sAsg t g) b S ps = R := by
  have : sAsg t g S ps = some (.nx S1, p) := by
    unfold sAsg
    rw [h, bindP_some, ht]
  rw [sSeq_nx this]
  exact hb
theorem seq_ownN {i : Nat} {gs : AG} {b : SG} {S S1 : Sd} {ps p : Pt} {ds : List PyData} {R : Option (OutS × Pt)} (h : gs S ps = some (ds, p)) (hS : S.set i (.own (.list ds)) = S1) (hb : b S1 p = R) : sSeq (sOwnN i gs) b S ps = R := by
  have : sOwnN i gs S ps = some (.nx S1, p) := by
    unfold sOwnN
    rw [h, bindP_some, hS]
  rw [sSeq_nx this]
  exact hb
theorem app_st {i : Nat} {g : EG} {S S1 : Sd} {ps p : Pt} {ds : List PyData} {d : PyData} (h0 : S[i]? = some (.own (.list ds))) (hl : ds.length ≤ 1000) (h : g S ps = some (d, p)) (hS : S.set i (.own (.list (ds ++ [d]))) = S1) : sApp i g S ps = some (.nx S1, p) := by
  unfold sApp
  rw [h0]
  simp only
  rw [if_pos (decide_eq_true (by omega)), h, bindP_some, hS]
theorem seq_app {i : Nat} {g : EG} {b : SG} {S S1 : Sd} {ps p : Pt} {ds : List PyData} {d : PyData} {R : Option (OutS × Pt)} (h0 : S[i]? = some (.own (.list ds))) (hl : ds.length ≤ 1000) (h : g S ps = some (d, p)) (hS : S.set i (.own (.list (ds ++ [d]))) = S1) (hb : b S1 p = R) : sSeq (sApp i g) b S ps = R := by
  rw [sSeq_nx (app_st h0 hl h hS)]
  exact hb
theorem vR {i : Nat} {s : Str} {a : Str} {S : Sd} {ps : Pt} (h : S[i]? = some (.dat (.str a))) (ha : a.length ≤ 900) (hs : s.length ≤ 10) : eOp addD (eVar i) (eC (.str s)) S ps = some (.str (a ++ s), ps) := eOp_at (var_at h) rfl (add_SS (by omega))
theorem vL {i : Nat} {s : Str} {a : Str} {S : Sd} {ps : Pt} (h : S[i]? = some (.dat (.str a))) (ha : a.length ≤ 900) (hs : s.length ≤ 10) : eOp addD (eC (.str s)) (eVar i) S ps = some (.str (s ++ a), ps) := eOp_at (g := eC (.str s)) rfl (var_at h) (add_SS (by omega))
section
variable {l : Ln} {zs : List Str}
theorem lc_parts {S : Sd} {ps : Pt} {it : AG} (h : LnOk 100 l) (m : Ln) (hm : ∀ p ∈ m, p ∈ l) (hl : m.length ≤ 12) (hi : it S ps = some (m.map encP, ps))
    (ht : ∀ p : Str × Int, ∃ S1, tTup 2 (tlCons (tName 10) (tlCons (tName 11) tlNil)) (encP p) (wipeD S [10, 11]) = some S1 ∧ S1[10]? = some (.dat (.str p.1)) ∧ S1[11]? = some (.dat (.int p.2))) :
    eLc it (tTup 2 (tlCons (tName 10) (tlCons (tName 11) tlNil))) bYes (eOp addD (eOp addD (eCB (one strI) (aCons (eVar 11) aNil)) (eC (.str (Str.ofString " ")))) (eVar 10)) [10, 11] S ps = some (.list ((m.map partS).map .str), ps) := by
  have a1 := lc_enc (e := encP) (xs := m) (g := fun p => .str (partS p)) hi (by omega) (t := tTup 2 (tlCons (tName 10) (tlCons (tName 11) tlNil))) (test := bYes) (elt := eOp addD (eOp addD (eCB (one strI) (aCons (eVar 11) aNil)) (eC (.str (Str.ofString " ")))) (eVar 10)) (vs := [10, 11]) fun p hp => by
    obtain ⟨S1, q1, q2, q3⟩ := ht p
    have h1 := h.ps p (hm p hp)
    obtain ⟨n, e, _, n2⟩ := num_nat h1
    have q5 := num_len n2
    rw [← e] at q5
    have q4 := (name_parts (h.nm p (hm p hp))).2.1
    have q6 := spc_len
    exact lcS_at q1 (eOp_at (eOp_at (eCB_at (aCons_one (var_at q3)) (str_at h1 (by decide) (by decide))) rfl (add_SS (b := spc) (by omega))) (var_at q2) (add_SS (by rw [app_len]; omega)))
  rw [a1, List.map_map]
  rfl
def odd1 (T : Str) : List Str := [Str.ofString " " ++ T, T ++ Str.ofString " ", T ++ Str.ofString "\n", T ++ Str.ofString " +", T ++ Str.ofString " + ", Str.ofString "+ " ++ T, Str.ofString "0" ++ T, T ++ Str.ofString " + 0", Str.ofString "1"]
def odd2 (T z : Str) : List Str := [T ++ Str.ofString " + " ++ T, Txt.upper T, Txt.replace T (Str.ofString " ") (Str.ofString "  "), Str.ofString "0 " ++ z, z, Str.ofString "", Str.ofString " ", Str.ofString "00"]
def odd3 (T z : Str) : List Str := [Str.ofString "0 + " ++ T, Str.ofString "-1 " ++ z, Str.ofString "1 abcdefghi", Str.ofString "1 take", Str.ofString "1 " ++ z ++ Str.ofString "+1 " ++ z ++ Str.ofString "z"]
def odd4 (z : Str) : List Str := [Str.ofString "1_0 " ++ z, z ++ Str.ofString " 1"]
theorem odd_bad (h : Lk l) {z : Str} (hz : Nk z) : ∀ w ∈ odd1 (txt l) ++ odd2 (txt l) z ++ odd3 (txt l) z ++ odd4 z, Bad w := by
  intro w hw
  simp only [odd1, odd2, odd3, odd4, List.mem_append, List.mem_cons, List.not_mem_nil, or_false] at hw
  rcases hw with ((hw | hw) | hw) | hw
  · rcases hw with rfl | rfl | rfl | rfl | rfl | rfl | rfl | rfl | rfl
    · exact b01 h
    · exact b02 h
    · exact b03 h
    · exact b04 h
    · exact b05 h
    · exact b06 h
    · exact b07 h
    · exact b08 h
    · exact b09
  · rcases hw with rfl | rfl | rfl | rfl | rfl | rfl | rfl | rfl
    · exact b10 h
    · exact b11 h
    · exact b12 h
    · exact b13 hz
    · exact b14 hz
    · exact b15
    · exact b16
    · exact b17
  · rcases hw with rfl | rfl | rfl | rfl | rfl
    · exact b18 h
    · exact b19 hz
    · exact b20
    · exact b21
    · exact b22 hz
  · rcases hw with rfl | rfl
    · exact b23 hz
    · exact b24 hz
def noneL (l : Ln) : List PyData := [.none, .int 0, .int 1, .bool true, .list [], .tuple [.str (Str.ofString "0")], encL l, .list [.str (Str.ofString "0")], .dict []]
theorem none_ok (h : Lk l) : ∀ d ∈ noneL l, wf 12 d = true ∧ isS d = false := by
  intro d hd
  simp only [noneL, List.mem_cons, List.not_mem_nil, or_false] at hd
  have h0 : wf 12 (.str (Str.ofString "0")) = true := asc_wf ⟨by decide +kernel, by decide +kernel⟩
  rcases hd with rfl | rfl | rfl | rfl | rfl | rfl | rfl | rfl | rfl
  · exact ⟨rfl, rfl⟩
  · exact ⟨rfl, rfl⟩
  · exact ⟨by decide, rfl⟩
  · exact ⟨rfl, rfl⟩
  · exact ⟨rfl, rfl⟩
  · exact ⟨wf_tup.mpr ⟨by simp, fun d hd => by rw [List.mem_singleton.mp hd]; exact h0⟩, rfl⟩
  · exact ⟨(wf_line h.ok (by decide) (by decide)).1, rfl⟩
  · exact ⟨wf_lst.mpr ⟨by simp, fun d hd => by rw [List.mem_singleton.mp hd]; exact h0⟩, rfl⟩
  · exact ⟨rfl, rfl⟩
abbrev rdS (d : PyData) : Str := (PyData.list [.str (Str.ofString "read"), d]).shown
abbrev txS (i : Int) : Str := (PyData.list [.str (Str.ofString "text"), .int i]).shown
theorem ok2 {s : String} {d : PyData} (hs : okD (.str (Str.ofString s)) = true) (h : okD d = true) : PyData.strOk (PyData.list [.str (Str.ofString s), d]).shown = true := strOk_shown (okD_lst fun y hy => by
  rcases List.mem_cons.mp hy with rfl | hy
  · exact hs
  · rw [List.mem_singleton.mp hy]
    exact h)
theorem texts_right_at (hz : Fr zs) {ps : Pt} (hp : POk ps) : ∃ p', POk p' ∧ f__law_texts_right [potD, .list (zs.map .str)] ps = some (.bool true, p') := by
  obtain ⟨l, p1, ok1, hl, hmem, e1⟩ := line_dr hz hp
  obtain ⟨p0, r, el⟩ := hl.first
  have hp0 : p0 ∈ l := by rw [el]; simp
  have hnk : Nk p0.1 := ⟨hl.ok.nm p0 hp0⟩
  have hT := hl.tl
  have hz8 : p0.1.length ≤ 8 := (name_parts (hl.ok.nm p0 hp0)).2.1
  have hle := hl.le
  let St (x4 x5 x8 x9 : SV) : Sd := [.dat potD, .dat (.list (zs.map .str)), .dat (encL l), .dat (.str (txt l)), x4, x5, .dat (.str p0.1), .dat (.int p0.2), x8, x9, .un, .un]
  have ht : ∀ (m : Ln) (x4 x5 x8 x9 : SV) (p : Pt), (∀ p ∈ m, p ∈ l) → m.length ≤ 12 → ∀ it : AG, it (St x4 x5 x8 x9) p = some (m.map encP, p) → eLc it (tTup 2 (tlCons (tName 10) (tlCons (tName 11) tlNil))) bYes (eOp addD (eOp addD (eCB (one strI) (aCons (eVar 11) aNil)) (eC (.str (Str.ofString " ")))) (eVar 10)) [10, 11] (St x4 x5 x8 x9) p = some (.list ((m.map partS).map .str), p) := fun m x4 x5 x8 x9 p hm h12 it hi =>
    lc_parts hl.ok m hm h12 hi fun q => ⟨[.dat potD, .dat (.list (zs.map .str)), .dat (encL l), .dat (.str (txt l)), x4, x5, .dat (.str p0.1), .dat (.int p0.2), x8, x9, .dat (.str q.1), .dat (.int q.2)], rfl, rfl, rfl⟩
  have hpl : ∀ m : Ln, (∀ p ∈ m, p ∈ l) → m.length ≤ 12 → joinD (.str (Str.ofString " + ")) (.list ((m.map partS).map .str)) = some (.str (Txt.join joi (m.map partS))) := fun m hm h12 => by
    refine join_at (fun z hz => ?_) (by rw [List.length_map]; omega) (Nat.le_trans (Nat.le_of_eq joi_len) (by decide))
    obtain ⟨p, hp', rfl⟩ := List.mem_map.mp hz
    exact Nat.le_trans (part_len (hl.ok.nm p (hm p hp')) (hl.ok.ps p (hm p hp'))) (by decide)
  have etxt : Txt.join joi (l.map partS) = txt l := by
    unfold txt
    rw [if_neg hl.ne]
  -- the odd texts
  obtain ⟨odds, hodds, eodds⟩ : ∃ odds : List Str, (∀ w ∈ odds, Bad w) ∧ odds.length ≤ 30 ∧ 0 < odds.length ∧ ∀ (b : SG) (R : Option (OutS × Pt)),
      b (St (.own (.list (odds.map .str))) .un .un .un) p1 = R → sSeq (sIf (asB (eOp gtI (eCB (one lenD) (aCons (eVar 2) aNil)) (eC (.int 1)))) (sApp 4 (eOp joinD (eC (.str (Str.ofString " + "))) (eLc (iOf (eUn revT (eVar 2))) (tTup 2 (tlCons (tName 10) (tlCons (tName 11) tlNil))) bYes (eOp addD (eOp addD (eCB (one strI) (aCons (eVar 11) aNil)) (eC (.str (Str.ofString " ")))) (eVar 10)) [10, 11]))) sNil) b
        (St (.own (.list ((odd1 (txt l) ++ odd2 (txt l) p0.1 ++ odd3 (txt l) p0.1 ++ odd4 p0.1).map .str))) .un .un .un) p1 = R := by
    have tst : ∀ x4 : SV, asB (eOp gtI (eCB (one lenD) (aCons (eVar 2) aNil)) (eC (.int 1))) (St x4 .un .un .un) p1 = some (decide (1 < l.length), p1) := fun x4 => by
      have e : lenD (encL l) = some (.int ((l.map encP).length : Nat)) := rfl
      have e2 := asB_at (eOp_at (o := gtI) (S := St x4 .un .un .un) (ps := p1) (eCB_at (o := one lenD) (gs := aCons (eVar 2) aNil) (aCons_one rfl) e) (h := eC (.int 1)) rfl (gt_int _ 1))
      rw [e2, List.length_map]
      congr 2
      exact decide_eq_decide.mpr (by omega)
    by_cases h2 : 1 < l.length
    · refine ⟨odd1 (txt l) ++ odd2 (txt l) p0.1 ++ odd3 (txt l) p0.1 ++ odd4 p0.1 ++ [Txt.join joi (l.reverse.map partS)], fun w hw => ?_, by simp [odd1, odd2, odd3, odd4], by simp [odd1], fun b R hb => ?_⟩
      · rcases List.mem_append.mp hw with hw | hw
        · exact odd_bad hl hnk w hw
        · rw [List.mem_singleton.mp hw]
          exact b25 hl h2
      · have a1 := ht l.reverse (.own (.list ((odd1 (txt l) ++ odd2 (txt l) p0.1 ++ odd3 (txt l) p0.1 ++ odd4 p0.1).map .str))) .un .un .un p1 (fun p hp' => by simpa using hp') (by rw [List.length_reverse]; omega) (iOf (eUn revT (eVar 2))) (by
          unfold iOf
          rw [eUn_at (g := eVar 2) (x := encL l) (d := encL l.reverse) rfl (by
            show some (PyData.tuple (l.map encP).reverse) = some (PyData.tuple (l.reverse.map encP))
            rw [List.map_reverse]), bindP_some]
          rfl)
        have a2 := eOp_at (o := joinD) (g := eC (.str (Str.ofString " + "))) (S := St (.own (.list ((odd1 (txt l) ++ odd2 (txt l) p0.1 ++ odd3 (txt l) p0.1 ++ odd4 p0.1).map .str))) .un .un .un) (ps := p1) rfl a1 (hpl l.reverse (fun p hp' => by simpa using hp') (by rw [List.length_reverse]; omega))
        have a3 := app_st (S := St (.own (.list ((odd1 (txt l) ++ odd2 (txt l) p0.1 ++ odd3 (txt l) p0.1 ++ odd4 p0.1).map .str))) .un .un .un) (i := 4) rfl (by simp [odd1, odd2, odd3, odd4]) a2 (S1 := St (.own (.list ((odd1 (txt l) ++ odd2 (txt l) p0.1 ++ odd3 (txt l) p0.1 ++ odd4 p0.1 ++ [Txt.join joi (l.reverse.map partS)]).map .str))) .un .un .un) (by rw [List.map_append (l₂ := [Txt.join joi (l.reverse.map partS)])]; rfl)
        have a4 := tst (.own (.list ((odd1 (txt l) ++ odd2 (txt l) p0.1 ++ odd3 (txt l) p0.1 ++ odd4 p0.1).map .str)))
        rw [decide_eq_true h2] at a4
        rw [sSeq_nx (by rw [sIf_at a4]; exact a3)]
        exact hb
    · refine ⟨odd1 (txt l) ++ odd2 (txt l) p0.1 ++ odd3 (txt l) p0.1 ++ odd4 p0.1, odd_bad hl hnk, by simp [odd1, odd2, odd3, odd4], by simp [odd1], fun b R hb => ?_⟩
      have a4 := tst (.own (.list ((odd1 (txt l) ++ odd2 (txt l) p0.1 ++ odd3 (txt l) p0.1 ++ odd4 p0.1).map .str)))
      rw [decide_eq_false h2] at a4
      exact seq_no a4 hb
  obtain ⟨hodl, hod0, hodd⟩ := eodds
  -- the picks
  have hs4 : ((odds.map PyData.str)).length = odds.length := List.length_map ..
  obtain ⟨w0, hw0, p2, ok2', ew⟩ := pick_at (S0 := St (.dat (.list (odds.map .str))) .un .un .un) (ps := p1) (p1 := p1) (g := eVar 4) (x := .list (odds.map .str)) (ds := odds.map .str) rfl rfl (.inl rfl) ok1 (by omega) (by omega)
  obtain ⟨w, hw, rfl⟩ := List.mem_map.mp hw0
  obtain ⟨nd, hnd, p3, ok3, en⟩ := pick_at (S0 := St (.dat (.list (odds.map .str))) .un .un .un) (ps := p2) (p1 := p2) (g := eLst (aCons (eC .none) (aCons (eC (.int 0)) (aCons (eC (.int 1)) (aCons (eC (.bool true)) (aCons (eLst aNil) (aCons (eTup (aCons (eC (.str (Str.ofString "0"))) aNil)) (aCons (eVar 2) (aCons (eLst (aCons (eC (.str (Str.ofString "0"))) aNil)) (aCons (eC (.dict [])) aNil)))))))))) (x := .list (noneL l)) (ds := noneL l) rfl rfl (.inl rfl) ok2' (by simp [noneL]) (by simp [noneL])
  obtain ⟨n1, n2⟩ := none_ok hl nd hnd
  refine ⟨p3, ok3, ?_⟩
  apply run_rt
  show g__law_texts_right [.dat potD, .dat (.list (zs.map .str)), .un, .un, .un, .un, .un, .un, .un, .un, .un, .un] ps = _
  unfold g__law_texts_right
  refine seq_set (S1 := [.dat potD, .dat (.list (zs.map .str)), .dat (encL l), .un, .un, .un, .un, .un, .un, .un, .un, .un]) (eCall_at (aCons_two rfl rfl) e1) rfl ?_
  refine seq_asg (d := encP p0) (p := p1) (S1 := [.dat potD, .dat (.list (zs.map .str)), .dat (encL l), .un, .un, .un, .dat (.str p0.1), .dat (.int p0.2), .un, .un, .un, .un]) (eOp_at (g := eVar 2) (h := eC (.int 0)) (x := encL l) rfl rfl (by rw [el]; exact at_zero _ _)) rfl ?_
  have a0 := lc_parts (S := [.dat potD, .dat (.list (zs.map .str)), .dat (encL l), .un, .un, .un, .dat (.str p0.1), .dat (.int p0.2), .un, .un, .un, .un]) (ps := p1) (it := iOf (eVar 2)) hl.ok l (fun _ h => h) (by omega) rfl fun q => ⟨[.dat potD, .dat (.list (zs.map .str)), .dat (encL l), .un, .un, .un, .dat (.str p0.1), .dat (.int p0.2), .un, .un, .dat (.str q.1), .dat (.int q.2)], rfl, rfl, rfl⟩
  refine seq_set (d := .str (txt l)) (p := p1) (S1 := St .un .un .un .un) (eOp_at (g := eC (.str (Str.ofString " + "))) rfl a0 (by rw [hpl l (fun _ h => h) (by omega), etxt])) rfl ?_
  have h3 : ∀ x4 : SV, (St x4 .un .un .un)[3]? = some (.dat (.str (txt l))) := fun _ => rfl
  have h6 : ∀ x4 : SV, (St x4 .un .un .un)[6]? = some (.dat (.str p0.1)) := fun _ => rfl
  have hT9 : (txt l).length ≤ 900 := by omega
  have hz9 : p0.1.length ≤ 900 := by omega
  have hup : upperD (.str (txt l)) = some (.str (Txt.upper (txt l))) := by
    show (if (txt l).length ≤ 1000 then _ else _) = _
    rw [if_pos (by omega)]
  have hrp : replD (Str.ofString " ") (Str.ofString "  ") (.str (txt l)) = some (.str (Txt.replace (txt l) (Str.ofString " ") (Str.ofString "  "))) := by
    show (if (txt l).length + ((txt l).length + 1) * (Str.ofString "  ").length ≤ 16777216 then _ else _) = _
    rw [if_pos (by rw [show (Str.ofString "  ").length = 2 from by decide +kernel]; omega)]
  refine seq_ownN (ds := (odd1 (txt l)).map .str) (p := p1) (fit_at (aCons_at (vL (h3 _) hT9 (by decide +kernel)) (aCons_at (vR (h3 _) hT9 (by decide +kernel)) (aCons_at (vR (h3 _) hT9 (by decide +kernel)) (aCons_at (vR (h3 _) hT9 (by decide +kernel)) (aCons_at (vR (h3 _) hT9 (by decide +kernel)) (aCons_at (vL (h3 _) hT9 (by decide +kernel)) (aCons_at (vL (h3 _) hT9 (by decide +kernel)) (aCons_at (vR (h3 _) hT9 (by decide +kernel)) (aCons_at (p := p1) rfl rfl))))))))) (by simp [odd1])) (S1 := St (.own (.list ((odd1 (txt l)).map .str))) .un .un .un) rfl ?_
  have l3 : (Str.ofString " + ").length = 3 := by decide +kernel
  refine seq_ownN (ds := (odd1 (txt l)).map .str ++ (odd2 (txt l) p0.1).map .str) (p := p1) (cat_own rfl (fit_at (ds := (odd2 (txt l) p0.1).map .str) (aCons_at (eOp_at (vR (h3 _) hT9 (by decide +kernel)) (var_at (h3 _)) (add_SS (by rw [app_len, l3]; omega))) (aCons_at (eUn_at (var_at (h3 _)) hup) (aCons_at (eUn_at (var_at (h3 _)) hrp) (aCons_at (vL (h6 _) hz9 (by decide +kernel)) (aCons_at (var_at (h6 _)) (aCons_at (p := p1) rfl (aCons_at (p := p1) rfl (aCons_at (p := p1) rfl rfl)))))))) (by simp [odd2])) (by simp [odd1, odd2])) (S1 := St (.own (.list ((odd1 (txt l)).map .str ++ (odd2 (txt l) p0.1).map .str))) .un .un .un) rfl ?_
  refine seq_ownN (ds := (odd1 (txt l)).map .str ++ (odd2 (txt l) p0.1).map .str ++ (odd3 (txt l) p0.1).map .str) (p := p1) (cat_own rfl (fit_at (ds := (odd3 (txt l) p0.1).map .str) (aCons_at (vL (h3 _) hT9 (by decide +kernel)) (aCons_at (vL (h6 _) hz9 (by decide +kernel)) (aCons_at (p := p1) rfl (aCons_at (p := p1) rfl (aCons_at (eOp_at (eOp_at (eOp_at (vL (h6 _) hz9 (by decide +kernel)) (h := eC (.str (Str.ofString "+1 "))) rfl (add_SS (by rw [app_len, show (Str.ofString "1 ").length = 2 from by decide +kernel, show (Str.ofString "+1 ").length = 3 from by decide +kernel]; omega))) (var_at (h6 _)) (add_SS (by rw [app_len, app_len, show (Str.ofString "1 ").length = 2 from by decide +kernel, show (Str.ofString "+1 ").length = 3 from by decide +kernel]; omega))) (h := eC (.str (Str.ofString "z"))) rfl (add_SS (by rw [app_len, app_len, app_len, show (Str.ofString "1 ").length = 2 from by decide +kernel, show (Str.ofString "+1 ").length = 3 from by decide +kernel, show (Str.ofString "z").length = 1 from by decide +kernel]; omega))) rfl))))) (by simp [odd3])) (by simp [odd1, odd2, odd3])) (S1 := St (.own (.list ((odd1 (txt l)).map .str ++ (odd2 (txt l) p0.1).map .str ++ (odd3 (txt l) p0.1).map .str))) .un .un .un) rfl ?_
  refine seq_ownN (ds := (odd1 (txt l) ++ odd2 (txt l) p0.1 ++ odd3 (txt l) p0.1 ++ odd4 p0.1).map .str) (p := p1) (by
    have h : aCat (aOwn 4) (aFit (aCons (eOp addD (eC (.str (Str.ofString "1_0 "))) (eVar 6)) (aCons (eOp addD (eVar 6) (eC (.str (Str.ofString " 1")))) aNil))) (St (.own (.list ((odd1 (txt l)).map .str ++ (odd2 (txt l) p0.1).map .str ++ (odd3 (txt l) p0.1).map .str))) .un .un .un) p1 = some ((odd1 (txt l)).map .str ++ (odd2 (txt l) p0.1).map .str ++ (odd3 (txt l) p0.1).map .str ++ (odd4 p0.1).map .str, p1) := cat_own (i := 4) rfl (fit_at (ds := (odd4 p0.1).map .str) (aCons_at (vL (h6 _) hz9 (by decide +kernel)) (aCons_at (vR (h6 _) hz9 (by decide +kernel)) rfl)) (by simp [odd4])) (by simp [odd1, odd2, odd3, odd4])
    rw [List.map_append, List.map_append, List.map_append]
    exact h) (S1 := St (.own (.list ((odd1 (txt l) ++ odd2 (txt l) p0.1 ++ odd3 (txt l) p0.1 ++ odd4 p0.1).map .str))) .un .un .un) rfl ?_
  refine hodd _ _ ?_
  show sSeq _ _ (St (.dat (.list (odds.map .str))) .un .un .un) p1 = _
  refine seq_par (p := p3) (aCons_two ew en) (S1 := St (.dat (.list (odds.map .str))) .un (.dat (.str w)) (.dat nd)) rfl ?_
  have r1 : f__law_read [.str (txt l)] p3 = some (.str (rdS (encL l)), p3) := read_ok (parse_txt hl p3) rfl (repr_two ⟨by decide +kernel, by decide +kernel⟩ (wf_line hl.ok (by decide) (by decide)).1 (wf_line hl.ok (by decide) (by decide)).2)
  have r2 : f__law_read [.str w] p3 = some (.str (txS 1), p3) := read_exc (hodds w hw p3) (by decide)
  have r3 : f__law_read [nd] p3 = some (.str (txS 0), p3) := read_exc (parse_none n1 n2 p3) (by decide)
  have r4 : f__law_read [.str (Str.ofString "0")] p3 = some (.str (rdS (.tuple [])), p3) := read_ok (parse_zero p3) rfl (repr_two ⟨by decide +kernel, by decide +kernel⟩ rfl (by decide))
  refine seq_set (d := .list ([rdS (encL l), txS 1, txS 0, rdS (.tuple [])].map .str)) (p := p3) (lst_at (aCons_at (eCall_at (aCons_one (var_at rfl)) r1) (aCons_at (eCall_at (aCons_one (var_at rfl)) r2) (aCons_at (eCall_at (aCons_one (var_at rfl)) r3) (aCons_at (eCall_at (aCons_one (p := p3) (p1 := p3) rfl) r4) rfl)))) (by simp)) (S1 := St (.dat (.list (odds.map .str))) (.dat (.list ([rdS (encL l), txS 1, txS 0, rdS (.tuple [])].map .str))) (.dat (.str w)) (.dat nd)) rfl ?_
  have rp : ∀ (s : String) (g : EG) (d : PyData), g (St (.dat (.list (odds.map .str))) (.dat (.list ([rdS (encL l), txS 1, txS 0, rdS (.tuple [])].map .str))) (.dat (.str w)) (.dat nd)) p3 = some (d, p3) → Asc (Str.ofString s) → wf 12 d = true → d.depth ≤ 2 → eCB (one reprD) (aCons (eLst (aCons (eC (.str (Str.ofString s))) (aCons g aNil))) aNil) (St (.dat (.list (odds.map .str))) (.dat (.list ([rdS (encL l), txS 1, txS 0, rdS (.tuple [])].map .str))) (.dat (.str w)) (.dat nd)) p3 = some (.str (PyData.list [.str (Str.ofString s), d]).shown, p3) := fun s g d hg hs hw hd =>
    eCB_at (aCons_one (lst_at (aCons_two (p1 := p3) rfl hg) (by simp))) (repr_two hs hw hd)
  have at2 : Asc (Str.ofString "text") := ⟨by decide +kernel, by decide +kernel⟩
  have ar2 : Asc (Str.ofString "read") := ⟨by decide +kernel, by decide +kernel⟩
  refine sRet_at (eOp_at (var_at rfl) (lst_at (ds := [rdS (encL l), txS 1, txS 0, rdS (.tuple [])].map .str) (aCons_at (rp _ _ (encL l) rfl ar2 (wf_line hl.ok (by decide) (by decide)).1 (wf_line hl.ok (by decide) (by decide)).2) (aCons_at (rp _ _ (.int 1) rfl at2 rfl (by decide)) (aCons_at (rp _ _ (.int 0) rfl at2 rfl (by decide)) (aCons_at (rp _ _ (.tuple []) rfl ar2 rfl (by decide)) rfl)))) (by simp)) ?_)
  have hs : ∀ z ∈ [rdS (encL l), txS 1, txS 0, rdS (.tuple [])], PyData.strOk z = true := fun z hz => by
    simp only [List.mem_cons, List.not_mem_nil, or_false] at hz
    rcases hz with rfl | rfl | rfl | rfl
    · exact ok2 (by decide +kernel) (okD_line hl.ok.nm)
    · exact ok2 (by decide +kernel) rfl
    · exact ok2 (by decide +kernel) rfl
    · exact ok2 (by decide +kernel) rfl
  rw [eq_strs hs hs, decide_eq_true rfl]
end
end W12
set_option Elab.async false
set_option linter.all false
set_option maxRecDepth 100000
set_option maxHeartbeats 4000000
namespace W12
open PySem L2 DL PL
local instance : TBL := ⟨[], fun _ => 0, fun _ => [], fun _ => none, w00⟩
theorem add_tups {x y : List PyData} (h : x.length + y.length ≤ 1000) : addD (.tuple x) (.tuple y) = some (.tuple (x ++ y)) := by
  have e : addT (.tuple x) (.tuple y) = some (.tuple (x ++ y)) := by
    show (if decide (x.length + y.length ≤ 16777216) then _ else _) = _
    rw [if_pos (decide_eq_true (by omega))]
  simp [addD, orD, addI, addS, addL, onI2, e]
theorem atI_nat {α : Type} {xs : List α} {k : Nat} {x : α} (h : xs[k]? = some x) : atI xs (k : Int) = some x := by
  have hk : k < xs.length := (List.getElem?_eq_some_iff.mp h).1
  have e : ixN xs.length (k : Int) = some k := by
    unfold ixN
    simp [hk]
  unfold atI
  rw [e]
  exact h
structure Odd (d : PyData) : Prop where
  no : ∀ q, f_is_line [d] q = some (.bool false, q)
  pf : potFree d = true
  sh : d.showable = true
  dp : d.depth ≤ 2
  ln : d.shown.length ≤ 870000
  ok : okD d = true
  ex : excOf d = none
theorem bnd2 : bnd 2 ≤ 870000 := by decide
theorem wf_ex {d : PyData} (h : wf 12 d = true) : excOf d = none := by
  cases d with
  | dict es =>
    have := wf_dict h
    subst this
    rfl
  | _ => rfl
theorem odd_of {d : PyData} (h : wf 12 d = true) (hd : d.depth ≤ 2) (ho : okD d = true) (hl : lineOk d = false) : Odd d := by
  obtain ⟨a1, a2⟩ := wf_free d h
  refine ⟨fun q => ?_, a1, a2, hd, Nat.le_trans (sh_le (Nat.le_refl 12) d 2 h hd) bnd2, ho, wf_ex h⟩
  rw [e_is_line, is_line_any q h, hl]
theorem odd_dict : Odd (.dict [(.str (Str.ofString "a"), .int 1)]) := by
  refine ⟨fun q => by rfl, by decide +kernel, by decide +kernel, by decide +kernel, ?_, by decide +kernel, rfl⟩
  have : (PyData.dict [(.str (Str.ofString "a"), .int 1)]).shown.length = 8 := by decide +kernel
  omega
structure Atom (d : PyData) : Prop where
  w : wf 12 d = true
  d0 : d.depth = 0
  o : okD d = true
structure Flat (d : PyData) : Prop where
  w : wf 12 d = true
  d1 : d.depth ≤ 1
  o : okD d = true
theorem Atom.flat {d : PyData} (h : Atom d) : Flat d := ⟨h.w, by rw [h.d0]; decide, h.o⟩
theorem flat_tup {ds : List PyData} (hl : ds.length ≤ 12) (h : ∀ d ∈ ds, Atom d) : Flat (.tuple ds) := by
  refine ⟨wf_tup.mpr ⟨hl, fun d hd => (h d hd).w⟩, ?_, by rw [okD, okDs_iff]; exact fun d hd => (h d hd).o⟩
  have := depthAll_le (k := 0) fun d hd => Nat.le_of_eq (h d hd).d0
  rw [PyData.depth]
  omega
theorem flat_lst {ds : List PyData} (hl : ds.length ≤ 12) (h : ∀ d ∈ ds, Atom d) : Flat (.list ds) := by
  refine ⟨wf_lst.mpr ⟨hl, fun d hd => (h d hd).w⟩, ?_, by rw [okD, okDs_iff]; exact fun d hd => (h d hd).o⟩
  have := depthAll_le (k := 0) fun d hd => Nat.le_of_eq (h d hd).d0
  rw [PyData.depth]
  omega
theorem odd_tup {ds : List PyData} (hl : ds.length ≤ 12) (h : ∀ d ∈ ds, Flat d) (hb : lineOk (.tuple ds) = false) : Odd (.tuple ds) := by
  refine odd_of (wf_tup.mpr ⟨hl, fun d hd => (h d hd).w⟩) ?_ (by rw [okD, okDs_iff]; exact fun d hd => (h d hd).o) hb
  have := depthAll_le (k := 1) fun d hd => (h d hd).d1
  rw [PyData.depth]
  omega
theorem odd_lst {ds : List PyData} (hl : ds.length ≤ 12) (h : ∀ d ∈ ds, Flat d) : Odd (.list ds) := by
  refine odd_of (wf_lst.mpr ⟨hl, fun d hd => (h d hd).w⟩) ?_ (by rw [okD, okDs_iff]; exact fun d hd => (h d hd).o) rfl
  have := depthAll_le (k := 1) fun d hd => (h d hd).d1
  rw [PyData.depth]
  omega
theorem at_none : Atom .none := ⟨rfl, by rw [PyData.depth], rfl⟩
theorem at_bool (b : Bool) : Atom (.bool b) := ⟨rfl, by rw [PyData.depth], rfl⟩
theorem at_int {i : Int} (h : i.natAbs.log2 < 1000) : Atom (.int i) := ⟨decide_eq_true h, by rw [PyData.depth], rfl⟩
theorem okD_asc {z : Str} (h : Asc z) : okD (.str z) = true := by
  rw [okD, List.all_eq_true]
  exact fun c hc => decide_eq_true (h.1 c hc)
theorem at_str {z : Str} (h : Asc z) : Atom (.str z) := ⟨asc_wf h, by rw [PyData.depth], okD_asc h⟩
theorem asc_name {z : Str} (h : nameS z = true) : Asc z := ⟨fun c hc => by
  have := name_range h c hc
  omega, by
  have := (name_parts h).2.1
  omega⟩
theorem all2 {P : PyData → Prop} {a b : PyData} (ha : P a) (hb : P b) : ∀ d ∈ [a, b], P d := fun d hd => by
  rcases List.mem_cons.mp hd with rfl | hd
  · exact ha
  · rw [List.mem_singleton.mp hd]
    exact hb
theorem flat2 {a b : PyData} (ha : Atom a) (hb : Atom b) : Flat (.tuple [a, b]) := flat_tup (by simp) (all2 ha hb)
theorem flat_enc {p : Str × Int} (h : nameS p.1 = true) (h1 : 1 ≤ p.2 ∧ p.2 < 2 ^ 100) : Flat (encP p) := flat2 (at_str (asc_name h)) (at_int (by have := log_of h1 (by decide); omega))
def partsA (f : Str) (c : Int) : List PyData := [.list [.str f, .int c], .tuple [.str f], .tuple [.str f, .int c, .int 1], .str f, .none, .tuple [.str f, .int 0], .tuple [.str f, .int (-c)], .tuple [.str f, .bool true]]
def partsB (f : Str) (c : Int) : List PyData := [.tuple [.str f, .str (numS c)], .tuple [.str f, .none], .tuple [.str (Str.ofString ""), .int c], .tuple [.str (Txt.upper f), .int c], .tuple [.str (Str.ofString "abcdefghi"), .int c]]
def partsC (f : Str) (c : Int) (r : Str) : List PyData := [.tuple [.str r, .int c], .tuple [.int 1, .int c], .tuple [.none, .int c], .tuple [.str (f ++ Str.ofString " "), .int c], .tuple []]
theorem up_name {f : Str} (h : nameS f = true) : TL.tl (Txt.upper f) = (TL.tl f).map upC ∧ nameS (Txt.upper f) = false ∧ Asc (Txt.upper f) := by
  have h1 := tl_upper (TL.tl f) (fun c hc => by have := name_range h c hc; omega)
  rw [mk_tl] at h1
  have h3 : ∀ c ∈ (TL.tl f).map upC, 65 ≤ c ∧ c ≤ 90 := fun c hc => by
    obtain ⟨y, hy, rfl⟩ := List.mem_map.mp hc
    have := name_range h y hy
    unfold upC
    rw [if_pos this]
    omega
  refine ⟨h1, ?_, fun c hc => ?_, ?_⟩
  · cases e : nameS (Txt.upper f) with
    | false => rfl
    | true =>
      exfalso
      have h2 := name_range e
      have h4 := (name_parts e).1
      rw [TL.len_tl, h1] at h4
      cases q : (TL.tl f).map upC with
      | nil => rw [q] at h4; exact absurd h4 (by decide)
      | cons c r =>
        have h5 := h2 c (by show c ∈ TL.tl (Txt.upper f); rw [h1, q]; simp)
        have h6 := h3 c (by rw [q]; simp)
        omega
  · rw [h1] at hc
    have := h3 c hc
    omega
  · rw [TL.len_tl, h1, List.length_map, ← TL.len_tl]
    exact (asc_name h).2
theorem res_asc : ∀ z ∈ RES, z.cps.toList.all (fun c => decide (c < 128)) = true ∧ z.length ≤ 100 ∧ nameS z = false := by decide +kernel
theorem asc_num {c : Int} (h : 1 ≤ c ∧ c < 2 ^ 100) : Asc (numS c) := by
  obtain ⟨n, e, h1, h2⟩ := num_nat h
  have := num_len h2
  rw [← e] at this
  refine ⟨fun x hx => ?_, by omega⟩
  rw [e, tl_numS] at hx
  have := TL.numL_digits n x hx
  omega
theorem asc_sp {f : Str} (h : nameS f = true) : Asc (f ++ Str.ofString " ") ∧ nameS (f ++ Str.ofString " ") = false := by
  have e : TL.tl (f ++ Str.ofString " ") = TL.tl f ++ [32] := by rw [TL.tl_append, show TL.tl (Str.ofString " ") = [32] from by decide +kernel]
  refine ⟨⟨fun c hc => ?_, ?_⟩, ?_⟩
  · rw [e] at hc
    rcases List.mem_append.mp hc with hc | hc
    · have := name_range h c hc
      omega
    · simp at hc
      omega
  · have := (name_parts h).2.1
    rw [app_len, show (Str.ofString " ").length = 1 from by decide +kernel]
    omega
  · have := nameS_no (l := TL.tl (f ++ Str.ofString " ")) (c := 32) (by rw [e]; simp) (by omega)
    rwa [mk_tl] at this
def BadP (d : PyData) : Prop := Flat d ∧ partOk d = false
section
variable {f : Str} {c : Int}
theorem badA (h : nameS f = true) (hc : 1 ≤ c ∧ c < 2 ^ 100) : ∀ d ∈ partsA f c, BadP d := by
  have af := at_str (asc_name h)
  have l1 := log_of hc (by decide)
  have ac : Atom (.int c) := at_int (by omega)
  have an : Atom (.int (-c)) := at_int (by rw [Int.natAbs_neg]; omega)
  have a0 : Atom (.int 0) := at_int (by decide)
  have a1 : Atom (.int 1) := at_int (by decide)
  intro d hd
  simp only [partsA, List.mem_cons, List.not_mem_nil, or_false] at hd
  rcases hd with rfl | rfl | rfl | rfl | rfl | rfl | rfl | rfl
  · exact ⟨flat_lst (by simp) (all2 af ac), rfl⟩
  · exact ⟨flat_tup (by simp) (fun d hd => by rw [List.mem_singleton.mp hd]; exact af), rfl⟩
  · refine ⟨flat_tup (by simp) (fun d hd => ?_), rfl⟩
    simp only [List.mem_cons, List.not_mem_nil, or_false] at hd
    rcases hd with rfl | rfl | rfl
    · exact af
    · exact ac
    · exact a1
  · exact ⟨af.flat, rfl⟩
  · exact ⟨at_none.flat, rfl⟩
  · exact ⟨flat2 af a0, by simp [partOk, isInt]⟩
  · refine ⟨flat2 af an, ?_⟩
    have : decide (1 ≤ -c) = false := decide_eq_false (by omega)
    simp only [partOk, isInt, this, Bool.and_false]
  · exact ⟨flat2 af (at_bool true), by simp [partOk, isInt]⟩
theorem badB (h : nameS f = true) (hc : 1 ≤ c ∧ c < 2 ^ 100) : ∀ d ∈ partsB f c, BadP d := by
  have af := at_str (asc_name h)
  have l1 := log_of hc (by decide)
  have ac : Atom (.int c) := at_int (by omega)
  have au := up_name h
  intro d hd
  simp only [partsB, List.mem_cons, List.not_mem_nil, or_false] at hd
  rcases hd with rfl | rfl | rfl | rfl | rfl
  · exact ⟨flat2 af (at_str (asc_num hc)), by simp [partOk, isInt]⟩
  · exact ⟨flat2 af at_none, by simp [partOk, isInt]⟩
  · refine ⟨flat2 (at_str ⟨by decide +kernel, by decide +kernel⟩) ac, ?_⟩
    have : nameS (Str.ofString "") = false := by decide +kernel
    simp only [partOk, nameOk, this, Bool.false_and]
  · refine ⟨flat2 (at_str au.2.2) ac, ?_⟩
    simp only [partOk, nameOk, au.2.1, Bool.false_and]
  · refine ⟨flat2 (at_str ⟨by decide +kernel, by decide +kernel⟩) ac, ?_⟩
    have : nameS (Str.ofString "abcdefghi") = false := by decide +kernel
    simp only [partOk, nameOk, this, Bool.false_and]
theorem badC {r : Str} (h : nameS f = true) (hc : 1 ≤ c ∧ c < 2 ^ 100) (hr : r ∈ RES) : ∀ d ∈ partsC f c r, BadP d := by
  have l1 := log_of hc (by decide)
  have ac : Atom (.int c) := at_int (by omega)
  have ar := res_asc r hr
  have as := asc_sp h
  intro d hd
  simp only [partsC, List.mem_cons, List.not_mem_nil, or_false] at hd
  rcases hd with rfl | rfl | rfl | rfl | rfl
  · refine ⟨flat2 (at_str ⟨fun x hx => of_decide_eq_true (List.all_eq_true.mp ar.1 x hx), ar.2.1⟩) ac, ?_⟩
    simp only [partOk, nameOk, ar.2.2, Bool.false_and]
  · exact ⟨flat2 (at_int (by decide)) ac, rfl⟩
  · exact ⟨flat2 at_none ac, rfl⟩
  · refine ⟨flat2 (at_str as.1) ac, ?_⟩
    simp only [partOk, nameOk, as.2, Bool.false_and]
  · exact ⟨flat_tup (by simp) (fun d hd => by cases hd), rfl⟩
end
def odd12 : List PyData := [.none, .int 0, .int 1, .bool true, .str (Str.ofString ""), .str (Str.ofString "0"), .str (Str.ofString "1 a"), .list [], .dict [], .dict [(.str (Str.ofString "a"), .int 1)], .tuple [.str (Str.ofString "a"), .int 1], .list [.tuple [.str (Str.ofString "a"), .int 1]]]
theorem asc_a : Asc (Str.ofString "a") := ⟨by decide +kernel, by decide +kernel⟩
theorem odd12_ok : ∀ d ∈ odd12, Odd d := by
  have ha : Atom (.str (Str.ofString "a")) := at_str asc_a
  have h1 : Atom (.int 1) := at_int (by decide)
  intro d hd
  simp only [odd12, List.mem_cons, List.not_mem_nil, or_false] at hd
  have one : ∀ {d : PyData}, Atom d → lineOk d = false → Odd d := fun {d} h hl => odd_of h.w (by rw [h.d0]; decide) h.o hl
  rcases hd with rfl | rfl | rfl | rfl | rfl | rfl | rfl | rfl | rfl | rfl | rfl | rfl
  · exact one at_none rfl
  · exact one (at_int (by decide)) rfl
  · exact one h1 rfl
  · exact one (at_bool true) rfl
  · exact one (at_str ⟨by decide +kernel, by decide +kernel⟩) rfl
  · exact one (at_str ⟨by decide +kernel, by decide +kernel⟩) rfl
  · exact one (at_str ⟨by decide +kernel, by decide +kernel⟩) rfl
  · exact odd_lst (by simp) (fun d hd => by cases hd)
  · exact odd_of rfl (by decide) rfl rfl
  · exact odd_dict
  · exact odd_tup (by simp) (all2 ha.flat h1.flat) rfl
  · exact odd_lst (by simp) (fun d hd => by rw [List.mem_singleton.mp hd]; exact flat2 ha h1)
theorem odd_part {a b : List PyData} {d : PyData} (ha : ∀ x ∈ a, Flat x) (hb : ∀ x ∈ b, Flat x) (hd : BadP d) (hl : a.length + b.length ≤ 11) : Odd (.tuple (a ++ [d] ++ b)) := by
  refine odd_tup (by simp; omega) (fun x hx => ?_) ?_
  · rcases List.mem_append.mp hx with hx | hx
    · rcases List.mem_append.mp hx with hx | hx
      · exact ha x hx
      · rw [List.mem_singleton.mp hx]
        exact hd.1
    · exact hb x hx
  · have : (a ++ [d] ++ b).all partOk = false := by
      rw [List.all_eq_false]
      exact ⟨d, by simp, by rw [hd.2]; decide⟩
    show ((a ++ [d] ++ b).all partOk && ascS ((a ++ [d] ++ b).map frameOf)) = false
    rw [this, Bool.false_and]
theorem odd_dup {m : Ln} (hl : m.length ≤ 12) (hp : ∀ p ∈ m, nameS p.1 = true ∧ 1 ≤ p.2 ∧ p.2 < 2 ^ 100) (hd : ascS (m.map (·.1)) = false) : Odd (encL m) := by
  refine odd_tup (by rw [List.length_map]; exact hl) (fun d hd => ?_) ?_
  · obtain ⟨p, hp', rfl⟩ := List.mem_map.mp hd
    exact flat_enc (hp p hp').1 (hp p hp').2
  · show ((m.map encP).all partOk && ascS ((m.map encP).map frameOf)) = false
    have : (m.map encP).map PL.frameOf = m.map (·.1) := by
      rw [List.map_map]
      rfl
    rw [this, hd, Bool.and_false]
theorem asc_no {m k : List Str} {z : Str} (h1 : z ∈ m) (h2 : z ∈ k) : ascS (m ++ k) = false := by
  cases e : ascS (m ++ k) with
  | false => rfl
  | true =>
    exfalso
    rw [asc_pw, List.pairwise_append] at e
    have := e.2.2 z h1 z h2
    rw [lt_irr] at this
    cases this
theorem words_at (ps : Pt) : f__law_words [] ps = some (.list (RES.map .str), ps) := by
  apply run_rt
  show g__law_words [.un] ps = _
  unfold g__law_words
  refine seq_set (d := .str (Str.ofString "call do either else end endless form frame function handler house kind limit loop most")) (p := ps) rfl (S1 := [.dat (.str (Str.ofString "call do either else end endless form frame function handler house kind limit loop most"))]) rfl ?_
  refine sRet_at (eOp_at (eOp_at (g := eVar 0) (h := eC (.str (Str.ofString " now or returns room shut size stop take task times"))) rfl rfl (add_SS (by decide +kernel))) (h := eC (.str (Str.ofString " "))) rfl ?_)
  rw [split_sp (by decide +kernel)]
  have : Txt.split (Str.ofString "call do either else end endless form frame function handler house kind limit loop most" ++ Str.ofString " now or returns room shut size stop take task times") spc = RES := by decide +kernel
  rw [this]
end W12
set_option Elab.async false
set_option linter.all false
set_option maxRecDepth 100000
set_option maxHeartbeats 4000000
namespace W12
open PySem L2 DL PL
local instance : TBL := ⟨[], fun _ => 0, fun _ => [], fun _ => none, w00⟩
theorem draw_v {S0 : Sd} {ps p1 : Pt} {gm : EG} {m : Nat} (h0 : S0[0]? = some (.dat potD)) (hg : gm S0 ps = some (.int (m : Int), p1)) (hm : 0 < m) (hm2 : m ≤ 1000) (hp : POk p1) : ∃ (v : Nat) (p' : Pt), POk p' ∧ v < m ∧ eCall drawFW (aCons (eVar 0) (aCons gm aNil)) S0 ps = some (.int (v : Int), p') := by
  obtain ⟨v, p', ok, v0, v1, e⟩ := draw_k (n := p1.2.2) h0 hg (by omega) (by omega) ⟨hp, rfl⟩
  obtain ⟨n, rfl⟩ := Int.eq_ofNat_of_zero_le v0
  exact ⟨n, p', ok.1, by omega, e⟩
theorem rep_at {gs : AG} {gn : EG} {S : Sd} {ps p p1 : Pt} {ds : List PyData} {k : Nat} (h : gs S ps = some (ds, p)) (hn : gn S p = some (.int (k : Int), p1)) (hk : k ≤ 100) (hd : ds.length ≤ 100) : aRep gs gn S ps = some ((List.replicate k ds).flatten, p1) := by
  have h3 : ds.length * k ≤ 100 * 100 := Nat.mul_le_mul hd hk
  unfold aRep
  rw [h, bindP_some, hn, bindP_some]
  simp only [Int.toNat_natCast]
  rw [if_pos]
  rw [Bool.and_eq_true, Bool.and_eq_true, decide_eq_true_eq, decide_eq_true_eq, decide_eq_true_eq]
  refine ⟨⟨?_, ?_⟩, by omega⟩
  · have : (-(2 ^ 63) : Int) ≤ 0 := by decide
    omega
  · have : (100 : Int) < 2 ^ 63 := by decide
    omega
section
variable {l : Ln}
theorem slT_hi {ds : List PyData} (k : Nat) : slD (.tuple ds) none (some (k : Int)) = some (.tuple (ds.take k)) := by
  show some (PyData.tuple (cutL ds none (some (k : Int)))) = _
  rw [cut_hi]
theorem slT_lo {ds : List PyData} (k : Nat) : slD (.tuple ds) (some (k : Int)) none = some (.tuple (ds.drop k)) := by
  show some (PyData.tuple (cutL ds (some (k : Int)) none)) = _
  rw [cut_lo]
theorem spoilt_dr (h : Lk l) {ps : Pt} (hp : POk ps) : ∃ (d : PyData) (p' : Pt), POk p' ∧ Odd d ∧ f__law_spoilt [potD, encL l] ps = some (d, p') := by
  have hle := h.le
  have hlen0 : 0 < l.length := List.length_pos_iff.mpr h.ne
  have elen : lenD (encL l) = some (.int (l.length : Int)) := by
    show some (PyData.int ((l.map encP).length : Nat)) = _
    rw [List.length_map]
  obtain ⟨v, p1, ok1, hv, e1⟩ := draw_v (S0 := [.dat potD, .dat (encL l), .un, .un, .un, .un, .un, .un, .un]) (ps := ps) (p1 := ps) (gm := eCB (one lenD) (aCons (eVar 1) aNil)) (m := l.length) rfl (eCB_at (aCons_one rfl) elen) hlen0 (by omega) hp
  obtain ⟨p, hpv⟩ : ∃ p, l[v]? = some p := ⟨l[v], List.getElem?_eq_getElem hv⟩
  have hpm : p ∈ l := List.mem_of_getElem? hpv
  have hn := h.ok.nm p hpm
  have hc := h.ok.ps p hpm
  have hn8 := (name_parts hn).2.1
  obtain ⟨rw0, hr0, p2, ok2, e2⟩ := pick_at (S0 := [.dat potD, .dat (encL l), .dat (.list (partsA p.1 p.2 ++ partsB p.1 p.2)), .un, .dat (.int (v : Int)), .dat (.list odd12), .dat (.str p.1), .dat (.int p.2), .un]) (ps := p1) (p1 := p1) (g := eCall f__law_words aNil) (x := .list (RES.map .str)) (ds := RES.map .str) rfl (eCall_at (gs := aNil) rfl (words_at p1)) (.inl rfl) ok1 (by decide +kernel) (by decide +kernel)
  obtain ⟨r, hr, rfl⟩ := List.mem_map.mp hr0
  let P := partsA p.1 p.2 ++ partsB p.1 p.2 ++ partsC p.1 p.2 r
  have hP : ∀ d ∈ P, BadP d := fun d hd => by
    rcases List.mem_append.mp hd with hd | hd
    · rcases List.mem_append.mp hd with hd | hd
      · exact badA hn hc d hd
      · exact badB hn hc d hd
    · exact badC hn hc hr d hd
  have hPl : P.length = 18 := rfl
  let mk1 : PyData → PyData := fun d => .tuple ((l.map encP).take v ++ [d] ++ (l.map encP).drop (v + 1))
  let big : List PyData := P.map mk1 ++ [.list (l.map encP), .tuple (l.map encP ++ l.map encP), .tuple (l.map encP ++ [(l.map encP).headD .none]), .list (l.map fun q => .list [.str q.1, .int q.2]), .tuple (l.map encP ++ [encP (Str.ofString "a", 1), encP (Str.ofString "a", 2)])] ++ (List.replicate (if 1 < l.length then 1 else 0) [encL l.reverse]).flatten ++ odd12
  obtain ⟨p0, r0, el⟩ := h.first
  have hbigl : 0 < big.length ∧ big.length ≤ 1000 := by
    have : (List.replicate (if 1 < l.length then 1 else 0) [encL l.reverse]).flatten.length ≤ 1 := by
      split <;> simp
    simp only [big, List.length_append, List.length_map, hPl, odd12, List.length_cons, List.length_nil]
    omega
  have hflat : ∀ x ∈ l.map encP, Flat x := fun x hx => by
    obtain ⟨q, hq, rfl⟩ := List.mem_map.mp hx
    exact flat_enc (h.ok.nm q hq) (h.ok.ps q hq)
  have hbig : ∀ d ∈ big, Odd d := fun d hd => by
    rcases List.mem_append.mp hd with hd | hd
    · rcases List.mem_append.mp hd with hd | hd
      · rcases List.mem_append.mp hd with hd | hd
        · obtain ⟨x, hx, rfl⟩ := List.mem_map.mp hd
          refine odd_part (fun y hy => hflat y (List.mem_of_mem_take hy)) (fun y hy => hflat y (List.mem_of_mem_drop hy)) (hP x hx) ?_
          rw [List.length_take, List.length_drop, List.length_map]
          omega
        · simp only [List.mem_cons, List.not_mem_nil, or_false] at hd
          rcases hd with rfl | rfl | rfl | rfl | rfl
          · exact odd_lst (by rw [List.length_map]; omega) hflat
          · have := odd_dup (m := l ++ l) (by rw [List.length_append]; omega) (fun q hq => h.all q (by simpa using hq)) (asc_dup h.ne)
            rw [encL, List.map_append] at this
            exact this
          · have e : (l.map encP).headD .none = encP p0 := by rw [el]; rfl
            have hm : p0 ∈ l := by rw [el]; simp
            have := odd_dup (m := l ++ [p0]) (by simp; omega) (fun q hq => by
              rcases List.mem_append.mp hq with hq | hq
              · exact h.all q hq
              · rw [List.mem_singleton.mp hq]
                exact h.all p0 hm) (by
              rw [List.map_append]
              exact asc_no (List.mem_map.mpr ⟨p0, hm, rfl⟩) (by simp))
            rw [encL, List.map_append] at this
            rw [e]
            exact this
          · refine odd_lst (by rw [List.length_map]; omega) fun x hx => ?_
            obtain ⟨q, hq, rfl⟩ := List.mem_map.mp hx
            exact flat_lst (by simp) (all2 (at_str (asc_name (h.ok.nm q hq))) (at_int (by have := log_of (h.ok.ps q hq) (by decide); omega)))
          · have hna : nameS (Str.ofString "a") = true := by decide +kernel
            have := odd_dup (m := l ++ [(Str.ofString "a", 1), (Str.ofString "a", 2)]) (by simp; omega) (fun q hq => by
              rcases List.mem_append.mp hq with hq | hq
              · exact h.all q hq
              · simp only [List.mem_cons, List.not_mem_nil, or_false] at hq
                rcases hq with rfl | rfl
                · exact ⟨hna, by decide, by decide⟩
                · exact ⟨hna, by decide, by decide⟩) (by
              rw [show (l ++ [(Str.ofString "a", (1 : Int)), (Str.ofString "a", 2)]) = (l ++ [(Str.ofString "a", 1)]) ++ [(Str.ofString "a", 2)] by simp, List.map_append]
              exact asc_no (z := Str.ofString "a") (by simp) (by simp))
            rw [encL, List.map_append] at this
            exact this
      · by_cases h2 : 1 < l.length
        · rw [if_pos h2] at hd
          have : d = encL l.reverse := by simpa using hd
          rw [this]
          exact odd_dup (by rw [List.length_reverse]; omega) (fun q hq => h.all q (by simpa using hq)) (asc_rev h.ok.asc h2)
        · rw [if_neg h2] at hd
          simp at hd
    · exact odd12_ok d hd
  let St (x2 x3 : SV) : Sd := [.dat potD, .dat (encL l), x2, x3, .dat (.int (v : Int)), .dat (.list odd12), .dat (.str p.1), .dat (.int p.2), .un]
  obtain ⟨d, hd, p3, ok3, e3⟩ := pick_at (S0 := St (.dat (.list P)) (.dat (.list big))) (ps := p2) (p1 := p2) (g := eVar 3) (x := .list big) (ds := big) rfl rfl (.inl rfl) ok2 hbigl.1 hbigl.2
  refine ⟨d, p3, ok3, hbig d hd, ?_⟩
  apply run_rt
  show g__law_spoilt [.dat potD, .dat (encL l), .un, .un, .un, .un, .un, .un, .un] ps = _
  unfold g__law_spoilt
  refine seq_asg (d := .tuple [.int (v : Int), .list odd12]) (p := p1) (S1 := [.dat potD, .dat (encL l), .un, .un, .dat (.int (v : Int)), .dat (.list odd12), .un, .un, .un]) (tup2_at e1 rfl) rfl ?_
  refine seq_asg (d := encP p) (p := p1) (S1 := St .un .un) (eOp_at (g := eVar 1) (h := eVar 4) (x := encL l) rfl rfl (by
    show atI (l.map encP) (v : Int) = _
    exact atI_nat (by rw [List.getElem?_map, hpv]; rfl))) rfl ?_
  have v6 : ∀ x2 x3 : SV, (St x2 x3)[6]? = some (.dat (.str p.1)) := fun _ _ => rfl
  have v7 : ∀ x2 x3 : SV, (St x2 x3)[7]? = some (.dat (.int p.2)) := fun _ _ => rfl
  refine seq_set (d := .list (partsA p.1 p.2)) (p := p1) rfl (S1 := St (.dat (.list (partsA p.1 p.2))) .un) rfl ?_
  refine seq_set (d := .list (partsA p.1 p.2 ++ partsB p.1 p.2)) (p := p1) (eOp_at (g := eVar 2) (y := .list (partsB p.1 p.2)) rfl (lst_at (ds := partsB p.1 p.2) (aCons_at (tup2_at (var_at (v6 _ _)) (eCB_at (aCons_one (var_at (v7 _ _))) (str_at hc (by decide) (by decide)))) (aCons_at (p := p1) rfl (aCons_at (p := p1) rfl (aCons_at (tup2_at (eUn_at (var_at (v6 _ _)) (by
    show (if p.1.length ≤ 1000 then _ else _) = _
    rw [if_pos (by omega)])) (var_at (v7 _ _))) (aCons_at (p := p1) rfl rfl))))) (by simp [partsA, partsB, partsC])) (add_lists (by simp [partsA, partsB, partsC]))) (S1 := St (.dat (.list (partsA p.1 p.2 ++ partsB p.1 p.2))) .un) rfl ?_
  refine seq_set (d := .list P) (p := p2) (eOp_at (g := eVar 2) (y := .list (partsC p.1 p.2 r)) rfl (lst_at (ds := partsC p.1 p.2 r) (aCons_at (tup2_at e2 rfl) (aCons_at (p := p2) rfl (aCons_at (p := p2) rfl (aCons_at (tup2_at (vR (v6 _ _) (by omega) (by decide +kernel)) rfl) (aCons_at (p := p2) rfl rfl))))) (by simp [partsA, partsB, partsC])) (add_lists (by simp [partsA, partsB, partsC]))) (S1 := St (.dat (.list P)) .un) rfl ?_
  have a1 := lc_enc (e := fun d : PyData => d) (xs := P) (g := mk1) (it := iOf (eVar 2)) (t := tName 8) (test := bYes) (elt := eOp addD (eOp addD (eSl (eVar 1) oNone (oSome (eVar 4))) (eTup (aCons (eVar 8) aNil))) (eSl (eVar 1) (oSome (eOp addD (eVar 4) (eC (.int 1)))) oNone)) (vs := [8]) (S0 := St (.dat (.list P)) .un) (ps := p2) (by rw [List.map_id']; rfl) (by rw [hPl]; decide) fun d hd => lcS_at (S1 := [.dat potD, .dat (encL l), .dat (.list P), .un, .dat (.int (v : Int)), .dat (.list odd12), .dat (.str p.1), .dat (.int p.2), .dat d]) rfl (by
    have s1 : eSl (eVar 1) oNone (oSome (eVar 4)) [.dat potD, .dat (encL l), .dat (.list P), .un, .dat (.int (v : Int)), .dat (.list odd12), .dat (.str p.1), .dat (.int p.2), .dat d] p2 = some (.tuple ((l.map encP).take v), p2) := by
      show (slD (encL l) none (some (v : Int))).map (fun d => (d, p2)) = _
      rw [show slD (encL l) none (some (v : Int)) = some (.tuple ((l.map encP).take v)) from slT_hi v]
      rfl
    have s2 : eSl (eVar 1) (oSome (eOp addD (eVar 4) (eC (.int 1)))) oNone [.dat potD, .dat (encL l), .dat (.list P), .un, .dat (.int (v : Int)), .dat (.list odd12), .dat (.str p.1), .dat (.int p.2), .dat d] p2 = some (.tuple ((l.map encP).drop (v + 1)), p2) := by
      show (slD (encL l) (some ((v : Int) + 1)) none).map (fun d => (d, p2)) = _
      rw [show slD (encL l) (some ((v : Int) + 1)) none = some (.tuple ((l.map encP).drop (v + 1))) from slT_lo (v + 1)]
      rfl
    have t1 : ((l.map encP).take v).length ≤ 10 := by rw [List.length_take, List.length_map]; omega
    have t2 : ((l.map encP).drop (v + 1)).length ≤ 10 := by rw [List.length_drop, List.length_map]; omega
    exact eOp_at (eOp_at s1 (h := eTup (aCons (eVar 8) aNil)) (y := .tuple [d]) rfl (add_tups (by simp; omega))) s2 (add_tups (by simp; omega)))
  refine seq_set (d := .list (P.map mk1)) (p := p2) a1 (S1 := St (.dat (.list P)) (.dat (.list (P.map mk1)))) rfl ?_
  have a2 := lc_enc (e := encP) (xs := l) (g := fun q => PyData.list [.str q.1, .int q.2]) (it := iOf (eVar 1)) (t := tName 8) (test := bYes) (elt := eCB (one listD) (aCons (eVar 8) aNil)) (vs := [8]) (S0 := St (.dat (.list P)) (.dat (.list (P.map mk1)))) (ps := p2) rfl (by omega) fun q hq => lcS_at (S1 := [.dat potD, .dat (encL l), .dat (.list P), .dat (.list (P.map mk1)), .dat (.int (v : Int)), .dat (.list odd12), .dat (.str p.1), .dat (.int p.2), .dat (encP q)]) rfl (eCB_at (aCons_one rfl) rfl)
  have h0 : ixD (encL l) (.int 0) = some ((l.map encP).headD .none) := by
    rw [el]
    exact at_zero _ _
  refine seq_set (d := .list (P.map mk1 ++ [.list (l.map encP), .tuple (l.map encP ++ l.map encP), .tuple (l.map encP ++ [(l.map encP).headD .none]), .list (l.map fun q => .list [.str q.1, .int q.2]), .tuple (l.map encP ++ [encP (Str.ofString "a", 1), encP (Str.ofString "a", 2)])])) (p := p2)
    (eOp_at (g := eVar 3) rfl (lst_at (aCons_at (eCB_at (aCons_one (p1 := p2) rfl) rfl) (aCons_at (eOp_at (g := eVar 1) (h := eVar 1) rfl rfl (add_tups (by rw [List.length_map]; omega))) (aCons_at (eOp_at (g := eVar 1) rfl (by
      unfold eTup
      rw [aCons_one (eOp_at (g := eVar 1) (h := eC (.int 0)) (x := encL l) (y := .int 0) rfl rfl h0), bindP_some]
      rfl) (add_tups (by rw [List.length_map]; simp; omega))) (aCons_at a2 (aCons_at (eOp_at (g := eVar 1) (y := .tuple [encP (Str.ofString "a", 1), encP (Str.ofString "a", 2)]) rfl rfl (add_tups (by rw [List.length_map]; simp; omega))) rfl))))) (by simp)) (add_lists (by rw [List.length_map, hPl]; simp))) (S1 := St (.dat (.list P)) (.dat (.list (P.map mk1 ++ [.list (l.map encP), .tuple (l.map encP ++ l.map encP), .tuple (l.map encP ++ [(l.map encP).headD .none]), .list (l.map fun q => .list [.str q.1, .int q.2]), .tuple (l.map encP ++ [encP (Str.ofString "a", 1), encP (Str.ofString "a", 2)])])))) rfl ?_
  refine seq_set (d := .list big) (p := p2) ?_ (S1 := St (.dat (.list P)) (.dat (.list big))) rfl (sRet_at e3)
  have rv : revT (encL l) = some (encL l.reverse) := by
    show some (PyData.tuple (l.map encP).reverse) = some (PyData.tuple (l.reverse.map encP))
    rw [List.map_reverse]
  have gi : ∀ S : Sd, S[1]? = some (.dat (encL l)) → eCB (one intD) (aCons (eOp gtI (eCB (one lenD) (aCons (eVar 1) aNil)) (eC (.int 1))) aNil) S p2 = some (.int ((if 1 < l.length then 1 else 0 : Nat) : Int), p2) := fun S h1 => by
    refine eCB_at (aCons_one (eOp_at (eCB_at (aCons_one (var_at h1)) elen) (h := eC (.int 1)) rfl (gt_int _ 1))) ?_
    by_cases h2 : 1 < l.length
    · rw [if_pos h2, decide_eq_true (by omega)]
      rfl
    · rw [if_neg h2, decide_eq_false (by omega)]
      rfl
  have a3 := rep_at (gs := aFit (aCons (eUn revT (eVar 1)) aNil)) (S := St (.dat (.list P)) (.dat (.list (P.map mk1 ++ [.list (l.map encP), .tuple (l.map encP ++ l.map encP), .tuple (l.map encP ++ [(l.map encP).headD .none]), .list (l.map fun q => .list [.str q.1, .int q.2]), .tuple (l.map encP ++ [encP (Str.ofString "a", 1), encP (Str.ofString "a", 2)])])))) (ps := p2) (ds := [encL l.reverse]) (fit_at (aCons_one (eUn_at (g := eVar 1) rfl rv)) (by simp)) (gi _ rfl) (by split <;> omega) (by simp)
  have hrl : (List.replicate (if 1 < l.length then 1 else 0) [encL l.reverse]).flatten.length ≤ 1 := by
    split <;> simp
  refine eOp_at (eOp_at (g := eVar 3) rfl (h := eNewL _) (by
    unfold eNewL
    rw [a3, bindP_some]) (add_lists (by rw [List.length_append, List.length_map, hPl]; simp at hrl ⊢; omega))) (h := eVar 5) rfl (add_lists (by rw [List.length_append, List.length_append, List.length_map, hPl]; simp [odd12] at hrl ⊢; omega))
end
end W12
set_option Elab.async false
set_option linter.all false
set_option maxRecDepth 100000
set_option maxHeartbeats 4000000
namespace W12
open PySem L2 DL PL
local instance : TBL := ⟨[], fun _ => 0, fun _ => [], fun _ => none, w00⟩
structure RO (d : PyData) : Prop where
  pf : potFree d = true
  sh : d.showable = true
  dp : d.depth ≤ 2
  ln : d.shown.length ≤ 870000
  ok : okD d = true
theorem Odd.ro {d : PyData} (h : Odd d) : RO d := ⟨h.pf, h.sh, h.dp, h.ln, h.ok⟩
theorem ro_wf {d : PyData} (h : wf 12 d = true) (hd : d.depth ≤ 2) (ho : okD d = true) : RO d := by
  obtain ⟨a1, a2⟩ := wf_free d h
  exact ⟨a1, a2, hd, Nat.le_trans (sh_le (Nat.le_refl 12) d 2 h hd) bnd2, ho⟩
theorem ro_line {l : Ln} (h : LnOk 100 l) : RO (encL l) := ro_wf (wf_line h (by decide) (by decide)).1 (wf_line h (by decide) (by decide)).2 (okD_line h.nm)
theorem Atom.ro {d : PyData} (h : Atom d) : RO d := ro_wf h.w (by rw [h.d0]; decide) h.o
theorem Flat.ro {d : PyData} (h : Flat d) : RO d := ro_wf h.w (by have := h.d1; omega) h.o
theorem potL : ∀ {ds : List PyData}, (∀ d ∈ ds, potFree d = true) → potFreeL ds = true
  | [], _ => by simp [potFreeL]
  | d :: ds, h => by
    rw [potFreeL, h d List.mem_cons_self, potL fun x hx => h x (List.mem_cons_of_mem _ hx)]
    rfl
theorem showL : ∀ {ds : List PyData}, (∀ d ∈ ds, d.showable = true) → PyData.showableAll ds = true
  | [], _ => by simp [PyData.showableAll]
  | d :: ds, h => by
    rw [PyData.showableAll, h d List.mem_cons_self, showL fun x hx => h x (List.mem_cons_of_mem _ hx)]
    rfl
theorem shAllL : ∀ {ds : List PyData}, (∀ d ∈ ds, d.shown.length ≤ 870000) → ∀ t ∈ PyData.shownAll ds, t.length ≤ 870000
  | [], _, t, ht => by
    rw [PyData.shownAll] at ht
    cases ht
  | d :: ds, h, t, ht => by
    rw [PyData.shownAll] at ht
    rcases List.mem_cons.mp ht with rfl | ht
    · exact h d List.mem_cons_self
    · exact shAllL (fun x hx => h x (List.mem_cons_of_mem _ hx)) t ht
theorem repr_ro {ds : List PyData} (hl : ds.length ≤ 12) (h : ∀ d ∈ ds, RO d) : reprD (.list ds) = some (.str (PyData.list ds).shown) := by
  have h1 := depthAll_le (k := 2) fun d hd => (h d hd).dp
  have h2 := list_up (shAllL fun d hd => (h d hd).ln)
  rw [shAll_len] at h2
  have h3 : ds.length * (870000 + 2) ≤ 12 * (870000 + 2) := Nat.mul_le_mul_right _ hl
  refine repr_at rfl (by rw [potFree]; exact potL fun d hd => (h d hd).pf) (by rw [PyData.showable]; exact showL fun d hd => (h d hd).sh) (by rw [PyData.depth]; omega) ?_
  rw [PyData.shown]
  omega
theorem repr2_ro {s : Str} {d : PyData} (hs : Asc s) (h : RO d) : reprD (.list [.str s, d]) = some (.str (PyData.list [.str s, d]).shown) := repr_ro (by simp) (all2 (at_str hs).ro h)
theorem ok_ro {s : Str} {d : PyData} (hs : Asc s) (h : RO d) : PyData.strOk (PyData.list [.str s, d]).shown = true := strOk_shown (okD_lst (all2 (okD_asc hs) h.ok))
theorem a_line : Asc (Str.ofString "line") := ⟨by decide +kernel, by decide +kernel⟩
theorem a_count : Asc (Str.ofString "count") := ⟨by decide +kernel, by decide +kernel⟩
theorem a_sizes : Asc (Str.ofString "sizes") := ⟨by decide +kernel, by decide +kernel⟩
abbrev dueS (s : String) (d : PyData) : Str := (PyData.list [.str (Str.ofString s), d]).shown
theorem told_of {c : Str} {fs : List (Str × PyData)} {z : PyData} {th : Pt → Option (PyData × Pt)} {q q' : Pt} (h : th q = some (excD c fs, q')) (h1 : rs__law_told.contains c = true) (h2 : (he__law_error c fs).bind reprD = some z) : ft__law_told th q = some (z, q') := by
  unfold ft__law_told toldC
  rw [h, bindP_some, excOf_excD]
  show (hErr rs__law_told he__law_error c fs).map _ = _
  unfold hErr
  rw [h1, if_pos rfl, h2]
  rfl
abbrev exL (d : PyData) : PyData := excD (Str.ofString "InvalidLine") [(Str.ofString "value", d)]
theorem told_line {d : PyData} (hd : RO d) {th : Pt → Option (PyData × Pt)} {q q' : Pt} (h : th q = some (exL d, q')) : ft__law_told th q = some (.str (dueS "line" d), q') := by
  refine told_of h (by decide +kernel) ?_
  have e : he__law_error (Str.ofString "InvalidLine") [(Str.ofString "value", d)] = some (.list [.str (Str.ofString "line"), d]) := by
    unfold he__law_error errH
    rw [if_pos (by decide +kernel), look1]
    rfl
  rw [e]
  exact repr2_ro a_line hd
theorem told_count {d : PyData} (hd : RO d) {th : Pt → Option (PyData × Pt)} {q q' : Pt} (h : th q = some (excD (Str.ofString "InvalidCount") [(Str.ofString "value", d)], q')) : ft__law_told th q = some (.str (dueS "count" d), q') := by
  refine told_of h (by decide +kernel) ?_
  have e : he__law_error (Str.ofString "InvalidCount") [(Str.ofString "value", d)] = some (.list [.str (Str.ofString "count"), d]) := by
    unfold he__law_error errH
    rw [if_neg (by decide +kernel)]
    unfold errH
    rw [if_pos (by decide +kernel), look1]
    rfl
  rw [e]
  exact repr2_ro a_count hd
theorem told_sizes {d : PyData} (hd : RO d) {th : Pt → Option (PyData × Pt)} {q q' : Pt} (h : th q = some (excD (Str.ofString "InvalidSizes") [(Str.ofString "name", d)], q')) : ft__law_told th q = some (.str (dueS "sizes" d), q') := by
  refine told_of h (by decide +kernel) ?_
  have e : he__law_error (Str.ofString "InvalidSizes") [(Str.ofString "name", d)] = some (.list [.str (Str.ofString "sizes"), d]) := by
    unfold he__law_error errH
    rw [if_neg (by decide +kernel)]
    unfold errH
    rw [if_neg (by decide +kernel)]
    unfold errH
    rw [look1]
    rfl
  rw [e]
  exact repr2_ro a_sizes hd
theorem want_b {x d : PyData} {ls : List Ln} {rest : List PyData} (q : Pt) (hx : x = .list (ls.map encL ++ d :: rest) ∨ x = .tuple (ls.map encL ++ d :: rest)) (h : ∀ l ∈ ls, LnOk 100 l) (hd : Odd d) : f_want_lines [x] q = some (exL d, q) := want_bad q hx h (hd.no q)
theorem want_g {x : PyData} {ls : List Ln} (q : Pt) (hx : x = .list (ls.map encL) ∨ x = .tuple (ls.map encL)) (h : ∀ l ∈ ls, LnOk 100 l) : f_want_lines [x] q = some (.none, q) := want_at hx h q
section
variable {one bad more other : PyData} {l l2 : Ln}
theorem c_sum {q : Pt} (hl : LnOk 100 l) (hb : Odd bad) : f_line_sum [.list [encL l, bad, more, other]] q = some (exL bad, q) := by
  apply run_rt
  show g_line_sum [.dat (.list [encL l, bad, more, other])] q = _
  unfold g_line_sum
  exact sSeq_rt (exX_rt (eCall_at (aCons_one (g1 := eVar 0) rfl) (want_b (ls := [l]) q (.inl rfl) (fun y hy => by rw [List.mem_singleton.mp hy]; exact hl) hb)))
theorem c_sumT {q : Pt} (hb : Odd bad) : f_line_sum [.tuple [bad, more]] q = some (exL bad, q) := by
  apply run_rt
  show g_line_sum [.dat (.tuple [bad, more])] q = _
  unfold g_line_sum
  exact sSeq_rt (exX_rt (eCall_at (aCons_one (g1 := eVar 0) rfl) (want_b (ls := []) q (.inr rfl) (fun y hy => by cases hy) hb)))
theorem w_one {S : Sd} {q : Pt} (h0 : S[0]? = some (.dat bad)) (hb : Odd bad) {b : SG} : sSeq (sExprX (eCall f_want_lines (aCons (eLst (aCons (eVar 0) aNil)) aNil))) b S q = some (.rt (exL bad), q) :=
  sSeq_rt (exX_rt (eCall_at (aCons_one (lst_at (aCons_one (var_at h0)) (by simp))) (want_b (ls := []) q (.inl rfl) (fun y hy => by cases hy) hb)))
theorem c_text {q : Pt} (hb : Odd bad) : f_line_text [bad] q = some (exL bad, q) := by
  apply run_rt
  show g_line_text [.dat bad, .un, .un] q = _
  unfold g_line_text
  exact w_one rfl hb
theorem c_with1 {q : Pt} (hl : LnOk 100 l) (hb : Odd bad) : f_is_within [encL l, bad] q = some (exL bad, q) := by
  apply run_rt
  show g_is_within [.dat (encL l), .dat bad, .un, .un, .un] q = _
  unfold g_is_within
  exact sSeq_rt (exX_rt (eCall_at (aCons_one (lst_at (aCons_two (p1 := q) rfl rfl) (by simp))) (want_b (ls := [l]) q (.inl rfl) (fun y hy => by rw [List.mem_singleton.mp hy]; exact hl) hb)))
theorem c_with2 {q : Pt} (hb : Odd bad) : f_is_within [bad, more] q = some (exL bad, q) := by
  apply run_rt
  show g_is_within [.dat bad, .dat more, .un, .un, .un] q = _
  unfold g_is_within
  exact sSeq_rt (exX_rt (eCall_at (aCons_one (lst_at (aCons_two (p1 := q) rfl rfl) (by simp))) (want_b (ls := []) q (.inl rfl) (fun y hy => by cases hy) hb)))
theorem c_times {q : Pt} (hb : Odd bad) : f_line_times [bad, more] q = some (exL bad, q) := by
  apply run_rt
  show g_line_times [.dat bad, .dat more] q = _
  unfold g_line_times
  exact w_one rfl hb
theorem c_size {q : Pt} (hb : Odd bad) : f_line_size [bad, more] q = some (exL bad, q) := by
  apply run_rt
  show g_line_size [.dat bad, .dat more, .un, .un] q = _
  unfold g_line_size
  exact w_one rfl hb
theorem w_good {S : Sd} {q : Pt} (h0 : S[0]? = some (.dat (encL l))) (hl : LnOk 100 l) {b : SG} : sSeq (sExprX (eCall f_want_lines (aCons (eLst (aCons (eVar 0) aNil)) aNil))) b S q = b S q :=
  sSeq_nx (exX_nx (eCall_at (aCons_one (lst_at (aCons_one (var_at h0)) (by simp))) (want_g (ls := [l]) q (.inl rfl) (fun y hy => by rw [List.mem_singleton.mp hy]; exact hl))))
theorem c_count {q : Pt} (hl : LnOk 100 l) (hw : wf 12 more = true) (hn : isInt 0 more = false) : f_line_times [encL l, more] q = some (excD (Str.ofString "InvalidCount") [(Str.ofString "value", more)], q) := by
  apply run_rt
  show g_line_times [.dat (encL l), .dat more] q = _
  unfold g_line_times
  rw [w_good rfl hl]
  refine sSeq_rt ?_
  have e : f_is_integer [more, .int 0] q = some (.bool false, q) := by
    rw [e_is_integer, is_integer 0 q hw, hn]
  rw [sIf_at (bNot_at (asB_at (eCall_at (aCons_two (g1 := eVar 1) (g2 := eC (.int 0)) rfl rfl) e)))]
  exact raise1_at rfl
end
def numL8 : List PyData := [.int (-1), .bool true, .bool false, .none, .str (Str.ofString "2"), .list [], .tuple [.int 1], .int (-100000000000000000000)]
theorem num_ok : ∀ d ∈ numL8, RO d ∧ wf 12 d = true ∧ isInt 0 d = false := by
  intro d hd
  simp only [numL8, List.mem_cons, List.not_mem_nil, or_false] at hd
  rcases hd with rfl | rfl | rfl | rfl | rfl | rfl | rfl | rfl
  · exact ⟨(at_int (by decide)).ro, by decide, rfl⟩
  · exact ⟨(at_bool _).ro, rfl, rfl⟩
  · exact ⟨(at_bool _).ro, rfl, rfl⟩
  · exact ⟨at_none.ro, rfl, rfl⟩
  · have h : Asc (Str.ofString "2") := ⟨by decide +kernel, by decide +kernel⟩
    exact ⟨(at_str h).ro, asc_wf h, rfl⟩
  · exact ⟨(flat_lst (by simp) (fun d hd => by cases hd)).ro, rfl, rfl⟩
  · have h := flat_tup (ds := [.int 1]) (by simp) (fun d hd => by rw [List.mem_singleton.mp hd]; exact at_int (by decide))
    exact ⟨h.ro, h.w, rfl⟩
  · have h : Atom (.int (-100000000000000000000)) := at_int (by decide +kernel)
    exact ⟨h.ro, h.w, by decide⟩
theorem callK1 {f : List PyData → Pt → Option (PyData × Pt)} {g : EG} {S : Sd} {ps p p2 : Pt} {x d : PyData} (h : g S ps = some (x, p)) (ho : f [x] p = some (d, p2)) : eCallK f [0] (aCons g aNil) S ps = some (d, p2) := by
  unfold eCallK
  rw [aCons_one h, bindP_some]
  exact ho
theorem lines_right_at {zs : List Str} (hz : Fr zs) {ps : Pt} (hp : POk ps) : ∃ p', POk p' ∧ f__law_lines_right [potD, .list (zs.map .str)] ps = some (.bool true, p') := by
  obtain ⟨l, p1, ok1, hl, _, e1⟩ := line_dr hz hp
  obtain ⟨l2, p2, ok2, hl2, _, e2⟩ := line_dr hz ok1
  obtain ⟨bad, p3, ok3, hb, e3⟩ := spoilt_dr hl ok2
  obtain ⟨more, p4, ok4, hm, e4⟩ := spoilt_dr hl2 ok3
  let St (x2 x3 x8 x9 x10 : SV) : Sd := [.dat potD, .dat (.list (zs.map .str)), x2, x3, .dat (encL l), .dat (encL l2), .dat bad, .dat more, x8, x9, x10]
  obtain ⟨nb, hnb, p5, ok5, e5⟩ := pick_at (S0 := St .un .un .un .un .un) (ps := p4) (p1 := p4) (g := eLst (aCons (eUn negI (eC (.int 1))) (aCons (eC (.bool true)) (aCons (eC (.bool false)) (aCons (eC .none) (aCons (eC (.str (Str.ofString "2"))) (aCons (eLst aNil) (aCons (eTup (aCons (eC (.int 1)) aNil)) (aCons (eUn negI (eOp powI (eC (.int 10)) (eC (.int 20)))) aNil))))))))) (x := .list numL8) (ds := numL8) rfl rfl (.inl rfl) ok4 (by decide) (by decide)
  obtain ⟨n1, n2, n3⟩ := num_ok nb hnb
  have hlb := hl.ok
  have hrow : ∀ d ∈ [encL l, bad, more, encL l2], RO d := fun d hd => by
    simp only [List.mem_cons, List.not_mem_nil, or_false] at hd
    rcases hd with rfl | rfl | rfl | rfl
    · exact ro_line hl.ok
    · exact hb.ro
    · exact hm.ro
    · exact ro_line hl2.ok
  have er : reprD (.list [encL l, bad, more, encL l2]) = some (.str (PyData.list [encL l, bad, more, encL l2]).shown) := repr_ro (by simp) hrow
  have ed := repr2_ro a_line hb.ro
  let due : Str := dueS "line" bad
  refine ⟨p5, ok5, ?_⟩
  apply run_rt
  show g__law_lines_right [.dat potD, .dat (.list (zs.map .str)), .un, .un, .un, .un, .un, .un, .un, .un, .un] ps = _
  unfold g__law_lines_right
  refine seq_asg (d := .tuple [encL l, encL l2]) (p := p2) (S1 := [.dat potD, .dat (.list (zs.map .str)), .un, .un, .dat (encL l), .dat (encL l2), .un, .un, .un, .un, .un]) (tup2_at (eCall_at (aCons_two rfl rfl) e1) (eCall_at (aCons_two rfl rfl) e2)) rfl ?_
  refine seq_asg (d := .tuple [bad, more]) (p := p4) (S1 := St .un .un .un .un .un) (tup2_at (eCall_at (aCons_two rfl rfl) e3) (eCall_at (aCons_two rfl rfl) e4)) rfl ?_
  have il : ∀ q, f_is_line [encL l] q = some (.bool true, q) := fun q => is_line_at hl.ok q
  have i0 : ∀ q, f_is_line [.tuple []] q = some (.bool true, q) := fun q => is_line_at (lnil 100) q
  have hne : neD (.list [.bool true, .bool false, .bool false, .bool true]) (.list [.bool true, .bool false, .bool false, .bool true]) = some (.bool false) := by rfl
  refine seq_no (asB_at (eOp_at (lst_at (ds := [.bool true, .bool false, .bool false, .bool true]) (aCons_at (eCall_at (aCons_one (var_at rfl)) (il _)) (aCons_at (eCall_at (aCons_one (var_at rfl)) (hb.no _)) (aCons_at (callK1 (var_at rfl) (hm.no _)) (aCons_at (eCall_at (aCons_one (p := p4) (p1 := p4) rfl) (i0 _)) rfl)))) (by simp)) rfl hne)) ?_
  refine seq_set (d := nb) (p := p5) e5 (S1 := St (.dat nb) .un .un .un .un) rfl ?_
  refine seq_asg (d := .tuple [.str due, .list [encL l, bad, more, encL l2], .str (PyData.list [encL l, bad, more, encL l2]).shown]) (p := p5) (S1 := St (.dat nb) .un (.dat (.str due)) (.dat (.list [encL l, bad, more, encL l2])) (.dat (.str (PyData.list [encL l, bad, more, encL l2]).shown))) (by
    unfold eTup
    rw [a3_at (eCB_at (aCons_one (lst_at (aCons_two (p1 := p5) rfl rfl) (by simp))) ed) (y := .list [encL l, bad, more, encL l2]) rfl (eCB_at (aCons_one (p1 := p5) (x := .list [encL l, bad, more, encL l2]) rfl) er), bindP_some]
    rfl) rfl ?_
  let S9 (x3 : SV) : Sd := St (.dat nb) x3 (.dat (.str due)) (.dat (.list [encL l, bad, more, encL l2])) (.dat (.str (PyData.list [encL l, bad, more, encL l2]).shown))
  have t0 : ∀ x3, eTold ft__law_told l__law_lines_right_0 (S9 x3) p5 = some (.str due, p5) := fun x3 => told_line hb.ro (th := fun p => l__law_lines_right_0 (S9 x3) p) (eCall_at (aCons_one (var_at rfl)) (c_sum hlb hb))
  have t1 : ∀ x3, eTold ft__law_told l__law_lines_right_1 (S9 x3) p5 = some (.str due, p5) := fun x3 => told_line hb.ro (th := fun p => l__law_lines_right_1 (S9 x3) p) (eCall_at (aCons_one (var_at rfl)) (c_text hb))
  have t2 : ∀ x3, eTold ft__law_told l__law_lines_right_2 (S9 x3) p5 = some (.str due, p5) := fun x3 => told_line hb.ro (th := fun p => l__law_lines_right_2 (S9 x3) p) (eCall_at (aCons_one (p1 := p5) (x := .tuple [bad, more]) rfl) (c_sumT hb))
  have t3 : ∀ x3, eTold ft__law_told l__law_lines_right_3 (S9 x3) p5 = some (.str due, p5) := fun x3 => told_line hb.ro (th := fun p => l__law_lines_right_3 (S9 x3) p) (eCall_at (aCons_two (var_at rfl) (var_at rfl)) (c_with1 hlb hb))
  have t4 : ∀ x3, eTold ft__law_told l__law_lines_right_4 (S9 x3) p5 = some (.str due, p5) := fun x3 => told_line hb.ro (th := fun p => l__law_lines_right_4 (S9 x3) p) (eCall_at (aCons_two (var_at rfl) (var_at rfl)) (c_with2 hb))
  have t5 : ∀ x3, eTold ft__law_told l__law_lines_right_5 (S9 x3) p5 = some (.str due, p5) := fun x3 => told_line hb.ro (th := fun p => l__law_lines_right_5 (S9 x3) p) (eCall_at (aCons_two (var_at rfl) (var_at rfl)) (c_times hb))
  have t6 : ∀ x3, eTold ft__law_told l__law_lines_right_6 (S9 x3) p5 = some (.str due, p5) := fun x3 => told_line hb.ro (th := fun p => l__law_lines_right_6 (S9 x3) p) (eCall_at (aCons_two (var_at rfl) (y := .dict []) rfl) (c_size hb))
  have t7 : ∀ x3, eTold ft__law_told l__law_lines_right_7 (S9 x3) p5 = some (.str (dueS "count" nb), p5) := fun x3 => told_count n1 (th := fun p => l__law_lines_right_7 (S9 x3) p) (eCall_at (aCons_two (var_at rfl) (var_at rfl)) (c_count hlb n2 n3))
  refine seq_ownN (ds := [.str due]) (p := p5) (fit_at (aCons_one (t0 _)) (by simp)) (S1 := S9 (.own (.list [.str due]))) rfl ?_
  refine seq_app (ds := [.str due]) rfl (by simp) (t1 _) (S1 := S9 (.own (.list [.str due, .str due]))) rfl ?_
  refine seq_app (ds := [.str due, .str due]) rfl (by simp) (t2 _) (S1 := S9 (.own (.list [.str due, .str due, .str due]))) rfl ?_
  refine seq_app (ds := [.str due, .str due, .str due]) rfl (by simp) (t3 _) (S1 := S9 (.own (.list [.str due, .str due, .str due, .str due]))) rfl ?_
  refine seq_app (ds := [.str due, .str due, .str due, .str due]) rfl (by simp) (t4 _) (S1 := S9 (.own (.list [.str due, .str due, .str due, .str due, .str due]))) rfl ?_
  refine seq_app (ds := [.str due, .str due, .str due, .str due, .str due]) rfl (by simp) (t5 _) (S1 := S9 (.own (.list [.str due, .str due, .str due, .str due, .str due, .str due]))) rfl ?_
  refine seq_app (ds := [.str due, .str due, .str due, .str due, .str due, .str due]) rfl (by simp) (t6 _) (S1 := S9 (.own (.list [.str due, .str due, .str due, .str due, .str due, .str due, .str due]))) rfl ?_
  show sSeq _ _ (S9 (.dat (.list [.str due, .str due, .str due, .str due, .str due, .str due, .str due]))) p5 = _
  have hdo : PyData.strOk due = true := ok_ro a_line hb.ro
  have q1 : neD (.list [.str due, .str due, .str due, .str due, .str due, .str due, .str due]) (.list [.str due, .str due, .str due, .str due, .str due, .str due, .str due]) = some (.bool false) := ne_same (zs := [due, due, due, due, due, due, due]) (fun z hz => by
    simp only [List.mem_cons, List.not_mem_nil, or_false, or_self] at hz
    rw [hz]
    exact hdo)
  refine seq_no (or_no (asB_at (eOp_at (var_at rfl) (by
    unfold eNewL
    rw [rep_at (k := 7) (fit_at (aCons_one (var_at (d := .str due) rfl)) (by simp)) (p := p5) (p1 := p5) rfl (by omega) (by simp), bindP_some]
    rfl) q1)) (asB_at (eOp_at (eCB_at (aCons_one (var_at rfl)) er) (var_at rfl) (ne_str _)))) ?_
  refine sRet_at (eOp_at (t7 _) (eCB_at (aCons_one (lst_at (aCons_two (p1 := p5) rfl (var_at rfl)) (by simp))) (repr2_ro a_count n1)) ?_)
  show orD eqS eqD0 (.str (dueS "count" nb)) (.str (dueS "count" nb)) = _
  simp [orD, eqS]
end W12
set_option Elab.async false
set_option linter.all false
set_option maxRecDepth 100000
set_option maxHeartbeats 4000000
namespace W12
open PySem L2 DL PL
local instance : TBL := ⟨[], fun _ => 0, fun _ => [], fun _ => none, w00⟩
def noSz (v : PyData) : Prop := wf 12 v = true ∧ isInt 1 v = false
structure Sp (es0 es : List (PyData × PyData)) (done : List Str) (n : Nat) : Prop where
  keys : StrKeys es
  len : es.length ≤ n
  bad : ∀ z ∈ done, getE es (.inr z) = none ∨ ∃ v, getE es (.inr z) = some v ∧ noSz v
  same : ∀ z, z ∉ done → getE es (.inr z) = getE es0 (.inr z)
def odd9 : List PyData := [.none, .int 0, .int (-1), .bool true, .bool false, .str (Str.ofString "1"), .list [], .tuple [.int 2], .int (-1000000000000)]
theorem odd9_no : ∀ d ∈ odd9, noSz d := by
  intro d hd
  simp only [odd9, List.mem_cons, List.not_mem_nil, or_false] at hd
  rcases hd with rfl | rfl | rfl | rfl | rfl | rfl | rfl | rfl | rfl
  · exact ⟨rfl, rfl⟩
  · exact ⟨rfl, by decide⟩
  · exact ⟨by decide, by decide⟩
  · exact ⟨rfl, rfl⟩
  · exact ⟨rfl, rfl⟩
  · exact ⟨asc_wf ⟨by decide +kernel, by decide +kernel⟩, rfl⟩
  · exact ⟨rfl, rfl⟩
  · exact ⟨wf_tup.mpr ⟨by simp, fun d hd => by rw [List.mem_singleton.mp hd]; decide⟩, rfl⟩
  · exact ⟨by decide +kernel, by decide⟩
abbrev bdS : SG := sIf (asB (eOp eqD (eCall f__law_draw (aCons (eVar 0) (aCons (eC (.int 2)) aNil))) (eC (.int 0)))) (sPopD 4 (eVar 6)) (sPutD 4 (eVar 6) (eCall f__law_pick (aCons (eVar 0) (aCons (eVar 3) aNil))))
abbrev S10 (a b c d e g h : SV) : Sd := [.dat potD, a, b, .dat (.list odd9), c, d, e, g, h, .un]
theorem sp_go {es0 : List (PyData × PyData)} {a b d g h : SV} : ∀ (w : List Str) (es : List (PyData × PyData)) (done : List Str) (n : Nat) (x : SV) (ps : Pt), POk ps → Sp es0 es done n → n + w.length ≤ 900 → w.Nodup → (∀ z ∈ w, z ∉ done ∧ (getE es0 (.inr z)).isSome = true) →
    ∃ (es2 : List (PyData × PyData)) (x2 : SV) (p2 : Pt), POk p2 ∧ Sp es0 es2 (done ++ w) (n + w.length) ∧ forGo (tName 6) bdS (w.map .str) (S10 a b (.own (.dict es)) d x g h) ps = some (.nx (S10 a b (.own (.dict es2)) d x2 g h), p2)
  | [], es, done, n, x, ps, hp, hs, _, _, _ => ⟨es, x, ps, hp, by rw [List.append_nil]; exact hs, rfl⟩
  | z :: w, es, done, n, x, ps, hp, hs, hn, hnd, hin => by
    rw [List.length_cons] at hn
    obtain ⟨hz, hnd2⟩ := List.nodup_cons.mp hnd
    obtain ⟨hzd, hz0⟩ := hin z List.mem_cons_self
    obtain ⟨w0, p1, ok1, _, _, e1⟩ := drawn (S0 := S10 a b (.own (.dict es)) d (.dat (.str z)) g h) (ps := ps) (p1 := ps) (i := 0) (gm := eC (.int 2)) (m := 2) rfl rfl (by decide) (by decide) hp
    have t1 := asB_at (eOp_at e1 (h := eC (.int 0)) rfl (eq_int _ _))
    have hl := hs.len
    have done1 : ∃ es1 p2, POk p2 ∧ bdS (S10 a b (.own (.dict es)) d (.dat (.str z)) g h) ps = some (.nx (S10 a b (.own (.dict es1)) d (.dat (.str z)) g h), p2) ∧ Sp es0 es1 (done ++ [z]) (n + 1) := by
      by_cases h0 : w0 = 0
      · rw [decide_eq_true h0] at t1
        have po := popD_at (i := 4) (gk := eVar 6) (S := S10 a b (.own (.dict es)) d (.dat (.str z)) g h) (ps := p1) (p := p1) rfl hs.keys (by rw [hs.same z hzd]; exact hz0) rfl
        refine ⟨dropE es (.inr z), p1, ok1, (sIf_at t1).trans po, keys_drop hs.keys _, by have := len_drop es (.inr z); omega, fun y hy => ?_, fun y hy => ?_⟩
        · rw [getE_drop]
          by_cases hyz : y = z
          · rw [if_pos (by rw [hyz])]
            exact .inl rfl
          · rw [if_neg fun c => hyz (Sum.inr.inj c)]
            rcases List.mem_append.mp hy with hy | hy
            · exact hs.bad y hy
            · exact absurd (List.mem_singleton.mp hy) hyz
        · have hyz : y ≠ z := fun c => hy (by rw [c]; simp)
          rw [getE_drop, if_neg fun c => hyz (Sum.inr.inj c)]
          exact hs.same y fun c => hy (List.mem_append_left _ c)
      · rw [decide_eq_false h0] at t1
        obtain ⟨v, hv, p2, ok2, e2⟩ := picked (S0 := S10 a b (.own (.dict es)) d (.dat (.str z)) g h) (ps := p1) (p1 := p1) (i := 0) (g := eVar 3) (ds := odd9) rfl rfl ok1 (by decide) (by decide)
        have pt := putD_at (i := 4) (gk := eVar 6) (S := S10 a b (.own (.dict es)) d (.dat (.str z)) g h) rfl hs.keys (by omega) e2 (p2 := p2) rfl
        have hl1 := len_put es (.inr z) v
        refine ⟨putE es (.inr z) v, p2, ok2, (sIf_at t1).trans pt, keys_put hs.keys z v, by omega, fun y hy => ?_, fun y hy => ?_⟩
        · rw [get_putA]
          by_cases hyz : y = z
          · rw [if_pos hyz]
            exact .inr ⟨v, rfl, odd9_no v hv⟩
          · rw [if_neg hyz]
            rcases List.mem_append.mp hy with hy | hy
            · exact hs.bad y hy
            · exact absurd (List.mem_singleton.mp hy) hyz
        · have hyz : y ≠ z := fun c => hy (by rw [c]; simp)
          rw [get_putA, if_neg hyz]
          exact hs.same y fun c => hy (List.mem_append_left _ c)
    obtain ⟨es1, p2, ok2, b1, s1⟩ := done1
    obtain ⟨es2, x2, p3, ok3, s2, e3⟩ := sp_go w es1 (done ++ [z]) (n + 1) (.dat (.str z)) p2 ok2 s1 (by omega) hnd2 (fun y hy => ⟨fun hm => by
      rcases List.mem_append.mp hm with hm | hm
      · exact (hin y (List.mem_cons_of_mem _ hy)).1 hm
      · exact hz (by rw [← List.mem_singleton.mp hm]; exact hy), (hin y (List.mem_cons_of_mem _ hy)).2⟩)
    refine ⟨es2, x2, p3, ok3, ?_, ?_⟩
    · rw [List.append_assoc] at s2
      rw [List.length_cons, show n + (w.length + 1) = n + 1 + w.length by omega]
      exact s2
    · rw [List.map_cons, forGo_nx (S0 := S10 a b (.own (.dict es)) d (.dat (.str z)) g h) rfl b1]
      exact e3
theorem get2_at {gd gk : EG} {S : Sd} {ps : Pt} {es : List (PyData × PyData)} {z : Str} (hk : StrKeys es) (h1 : gd S ps = some (.dict es, ps)) (h2 : gk S ps = some (.str z, ps)) : eGet2 gd gk (eC (.int 0)) S ps = some ((getE es (.inr z)).getD (.int 0), ps) := by
  unfold eGet2
  rw [h1, bindP_some]
  simp only [hk.np, if_true, h2, bindP_some, DL.keyOf, eC]
abbrev szB : SG := sIf (bNot (asB (eCall f_is_integer (aCons (eGet2 (eVar 1) (eVar 2) (eC (.int 0))) (aCons (eC (.int 1)) aNil))))) (sRaise (Str.ofString "InvalidSizes") [Str.ofString "name"] (aCons (eVar 2) aNil)) sNil
section
variable {es : List (PyData × PyData)} {l : Ln}
theorem sz_test (hk : StrKeys es) {x0 x3 : SV} {z : Str} (q : Pt) (hw : wf 12 ((getE es (.inr z)).getD (.int 0)) = true) : bNot (asB (eCall f_is_integer (aCons (eGet2 (eVar 1) (eVar 2) (eC (.int 0))) (aCons (eC (.int 1)) aNil)))) [x0, .dat (.dict es), .dat (.str z), x3] q = some (!isInt 1 ((getE es (.inr z)).getD (.int 0)), q) := by
  have g := get2_at (gd := eVar 1) (gk := eVar 2) (S := [x0, .dat (.dict es), .dat (.str z), x3]) (ps := q) (z := z) hk rfl rfl
  have e : f_is_integer [(getE es (.inr z)).getD (.int 0), .int 1] q = some (.bool (isInt 1 ((getE es (.inr z)).getD (.int 0))), q) := by
    rw [e_is_integer]
    exact is_integer 1 q hw
  exact bNot_at (asB_at (eCall_at (aCons_two g (g2 := eC (.int 1)) rfl) e))
theorem sz_go (hk : StrKeys es) {x0 : SV} (q : Pt) {p : Str × Int} {l2 : Ln} (hp : noSz ((getE es (.inr p.1)).getD (.int 0))) : ∀ (l1 : Ln) (a b : SV), (∀ y ∈ l1, ∃ i : Int, getE es (.inr y.1) = some (.int i) ∧ 1 ≤ i ∧ i < 2 ^ 100) →
    forGo (tTup 2 (tlCons (tName 2) (tlCons (tName 3) tlNil))) szB ((l1 ++ p :: l2).map encP) [x0, .dat (.dict es), a, b] q = some (.rt (excD (Str.ofString "InvalidSizes") [(Str.ofString "name", .str p.1)]), q)
  | [], a, b, _ => by
    rw [List.nil_append, List.map_cons]
    refine forGo_rt (S0 := [x0, .dat (.dict es), .dat (.str p.1), .dat (.int p.2)]) rfl ?_
    have t := sz_test hk (x0 := x0) (x3 := .dat (.int p.2)) (z := p.1) q hp.1
    rw [hp.2] at t
    exact (sIf_at t).trans (raise1_at rfl)
  | y :: l1, a, b, h => by
    obtain ⟨i, hi, h1, h2⟩ := h y List.mem_cons_self
    rw [List.cons_append, List.map_cons, forGo_nx (S0 := [x0, .dat (.dict es), .dat (.str y.1), .dat (.int y.2)]) (S1 := [x0, .dat (.dict es), .dat (.str y.1), .dat (.int y.2)]) (p := q) rfl]
    · exact sz_go hk q hp l1 _ _ fun z hz => h z (List.mem_cons_of_mem _ hz)
    · have hl := log_of ⟨h1, h2⟩ (by decide)
      have t := sz_test hk (x0 := x0) (x3 := .dat (.int y.2)) (z := y.1) q (by rw [hi]; exact decide_eq_true (by omega))
      have hii : isInt 1 ((getE es (.inr y.1)).getD (.int 0)) = true := by
        rw [hi]
        exact decide_eq_true h1
      rw [hii] at t
      exact (sIf_at t).trans rfl
theorem c_sizes (hk : StrKeys es) {l1 l2 : Ln} {p : Str × Int} (hl : LnOk 100 (l1 ++ p :: l2)) (q : Pt) (hp : noSz ((getE es (.inr p.1)).getD (.int 0))) (h : ∀ y ∈ l1, ∃ i : Int, getE es (.inr y.1) = some (.int i) ∧ 1 ≤ i ∧ i < 2 ^ 100) :
    f_line_size [encL (l1 ++ p :: l2), .dict es] q = some (excD (Str.ofString "InvalidSizes") [(Str.ofString "name", .str p.1)], q) := by
  apply run_rt
  show g_line_size [.dat (encL (l1 ++ p :: l2)), .dat (.dict es), .un, .un] q = _
  unfold g_line_size
  rw [w_good rfl hl]
  refine sSeq_rt ?_
  unfold sFor
  rw [show iOf (eVar 0) [.dat (encL (l1 ++ p :: l2)), .dat (.dict es), .un, .un] q = some ((l1 ++ p :: l2).map encP, q) from rfl, bindP_some]
  exact sz_go hk q hp l1 .un .un h
theorem first_in {N : List Str} : ∀ {l : Ln}, (∃ p ∈ l, p.1 ∈ N) → ∃ l1 p l2, l = l1 ++ p :: l2 ∧ p.1 ∈ N ∧ ∀ y ∈ l1, y.1 ∉ N
  | [], h => by
    obtain ⟨p, hp, _⟩ := h
    cases hp
  | x :: r, h => by
    by_cases hx : x.1 ∈ N
    · exact ⟨[], x, r, rfl, hx, fun y hy => by cases hy⟩
    · obtain ⟨p, hp, hn⟩ := h
      have : ∃ p ∈ r, p.1 ∈ N := by
        rcases List.mem_cons.mp hp with rfl | hp
        · exact absurd hn hx
        · exact ⟨p, hp, hn⟩
      obtain ⟨l1, p, l2, e, h1, h2⟩ := first_in this
      refine ⟨x :: l1, p, l2, by rw [e]; rfl, h1, fun y hy => ?_⟩
      rcases List.mem_cons.mp hy with rfl | hy
      · exact hx
      · exact h2 y hy
end
theorem nd_len {α : Type} [DecidableEq α] : ∀ {xs ys : List α}, xs.Nodup → (∀ x ∈ xs, x ∈ ys) → xs.length ≤ ys.length
  | [], _, _, _ => Nat.zero_le _
  | x :: xs, ys, h, hs => by
    obtain ⟨h1, h2⟩ := List.nodup_cons.mp h
    have h3 := nd_len (xs := xs) (ys := ys.erase x) h2 fun y hy => (List.mem_erase_of_ne (fun e => h1 (by rw [← e]; exact hy))).mpr (hs y (List.mem_cons_of_mem _ hy))
    have h4 := hs x List.mem_cons_self
    rw [List.length_erase_of_mem h4] at h3
    have h5 := List.length_pos_of_mem h4
    rw [List.length_cons]
    omega
theorem sizes_right_at {zs : List Str} (hz : Fr zs) {ps : Pt} (hp : POk ps) : ∃ p', POk p' ∧ f__law_sizes_right [potD, .list (zs.map .str)] ps = some (.bool true, p') := by
  obtain ⟨l, p1, ok1, hl, hmem, e1⟩ := line_dr hz hp
  have hzl := hz.ok.len
  have hle := hl.le
  -- the sizes
  obtain ⟨rs, p2, ok2, hr, e2⟩ := lc_relp (e := PyData.str) (R := RN) (it := iOf (eVar 1)) (t := tName 6) (elt := eTup (aCons (eVar 6) (aCons (eOp addD (eC (.int 1)) (eCall f__law_draw (aCons (eVar 0) (aCons (eC (.int 9)) aNil)))) aNil))) (vs := [6]) (S0 := [.dat potD, .dat (.list (zs.map .str)), .dat (encL l), .dat (.list odd9), .un, .un, .un, .un, .un, .un]) (ps := p1) (p1 := p1) (xs := zs) rfl ok1 (by omega) fun z _ p okp => by
    obtain ⟨v, p', okp', v0, v1, e⟩ := draw_at (S0 := [.dat potD, .dat (.list (zs.map .str)), .dat (encL l), .dat (.list odd9), .un, .un, .dat (.str z), .un, .un, .un]) (ps := p) 9 rfl (by decide) (by decide) okp
    refine ⟨encP (z, 1 + v), p', okp', ⟨1 + v, rfl, by omega, by
      have : (40 : Int) < 2 ^ 100 := by decide
      omega⟩, ?_⟩
    refine lcS_dr (S1 := [.dat potD, .dat (.list (zs.map .str)), .dat (encL l), .dat (.list odd9), .un, .un, .dat (.str z), .un, .un, .un]) rfl ?_
    exact tup2_at rfl (eOp_at rfl e (add_ii 1 v))
  obtain ⟨m, rfl, e3, e4⟩ := rn_line hr
  obtain ⟨k1, k2, k3⟩ := dictK_spec (B := 2 ^ 100) m.length m rfl e4
  have kz : ∀ z ∈ zs, z ∈ (dictK m).1 := fun z hz' => (k2 z).mpr (by
    have : z ∈ m.map (·.1) := by rw [e3]; exact hz'
    obtain ⟨p, hp', rfl⟩ := List.mem_map.mp this
    exact ⟨p, hp', rfl⟩)
  let es0 := encD (dictK m).1 (dictK m).2
  have hd : dictD (.list (m.map encP)) = some (.dict es0) := dict_enc m (.inl rfl)
  have hes0 : ∀ z ∈ zs, getE es0 (.inr z) = some (.int ((dictK m).2 z)) ∧ 1 ≤ (dictK m).2 z ∧ (dictK m).2 z < 2 ^ 100 := fun z hz' => by
    refine ⟨?_, k3 z (kz z hz')⟩
    show getE (encD (dictK m).1 (dictK m).2) (.inr z) = _
    rw [get_enc, if_pos (kz z hz')]
  have hml : m.length = zs.length := by
    have := congrArg List.length e3
    rwa [List.length_map] at this
  have hlen0 : es0.length ≤ 700 := by
    have h1 : (dictK m).1.length ≤ (m.map (·.1)).length := nd_len k1 fun z hz' => by
      obtain ⟨p, hp', rfl⟩ := (k2 z).mp hz'
      exact List.mem_map.mpr ⟨p, hp', rfl⟩
    show ((dictK m).1.map _).length ≤ 700
    rw [List.length_map]
    rw [List.length_map] at h1
    omega
  have hk0 : StrKeys es0 := fun e he => by
    obtain ⟨z, _, rfl⟩ := List.mem_map.mp he
    exact ⟨z, rfl⟩
  -- the names
  have hln : l.map (·.1) ≠ [] := fun z => hl.ne (List.map_eq_nil_iff.mp z)
  have hlnd : (l.map (·.1)).Nodup := ((asc_pw _).mp hl.ok.asc).imp fun {a b} h => by
    intro hab
    rw [hab, lt_irr] at h
    cases h
  obtain ⟨N, p3, ok3, hN0, hNs, e5⟩ := some_k (n := p2.2.2) (zs := l.map (·.1)) hln (by rw [List.length_map]; omega) ⟨ok2, rfl⟩
  have hNl : N.length ≤ 6 := by
    have := hNs.length_le
    rw [List.length_map] at this
    omega
  have hNz : ∀ z ∈ N, z ∈ zs := fun z hz' => by
    obtain ⟨p, hp', rfl⟩ := List.mem_map.mp (hNs.subset hz')
    exact hmem p hp'
  obtain ⟨es, x6, p4, ok4, hs, e6⟩ := sp_go (es0 := es0) (a := .dat (.list (zs.map .str))) (b := .dat (encL l)) (d := .dat (.list (N.map .str))) (g := .un) (h := .un) N es0 [] 700 .un p3 ok3.1 ⟨hk0, hlen0, (fun z hz' => by cases hz'), fun z _ => rfl⟩ (by omega) (hlnd.sublist hNs) (fun z hz' => ⟨List.not_mem_nil, by rw [(hes0 z (hNz z hz')).1]; rfl⟩)
  rw [List.nil_append] at hs
  obtain ⟨l1, p, l2, el, hpN, hl1⟩ := first_in (N := N) (l := l) (by
    cases hq : N with
    | nil => exact absurd hq hN0
    | cons z r =>
      obtain ⟨p, hp', hpz⟩ := List.mem_map.mp (hNs.subset (show z ∈ N by rw [hq]; simp))
      exact ⟨p, hp', by rw [hpz]; simp⟩)
  have hbad : noSz ((getE es (.inr p.1)).getD (.int 0)) := by
    rcases hs.bad p.1 hpN with h | ⟨v, h, hv⟩
    · rw [h]
      exact ⟨rfl, by decide⟩
    · rw [h]
      exact hv
  have hgood : ∀ y ∈ l1, ∃ i : Int, getE es (.inr y.1) = some (.int i) ∧ 1 ≤ i ∧ i < 2 ^ 100 := fun y hy => by
    have hyl : y ∈ l := by rw [el]; simp [hy]
    obtain ⟨h1, h2⟩ := hes0 y.1 (hmem y hyl)
    exact ⟨_, by rw [hs.same y.1 (hl1 y hy)]; exact h1, h2⟩
  have hsz : ∀ q, f_line_size [encL l, .dict es] q = some (excD (Str.ofString "InvalidSizes") [(Str.ofString "name", .str p.1)], q) := fun q => by
    have hok := hl.ok
    rw [el] at hok ⊢
    exact c_sizes hs.keys hok q hbad hgood
  have hpl : p ∈ l := by rw [el]; simp
  have hrp : RO (.str p.1) := (at_str (asc_name (hl.ok.nm p hpl))).ro
  refine ⟨p4, ok4, ?_⟩
  apply run_rt
  show g__law_sizes_right [.dat potD, .dat (.list (zs.map .str)), .un, .un, .un, .un, .un, .un, .un, .un] ps = _
  unfold g__law_sizes_right
  refine seq_set (S1 := [.dat potD, .dat (.list (zs.map .str)), .dat (encL l), .un, .un, .un, .un, .un, .un, .un]) (eCall_at (aCons_two rfl rfl) e1) rfl ?_
  refine seq_set (d := .list odd9) (p := p1) rfl (S1 := [.dat potD, .dat (.list (zs.map .str)), .dat (encL l), .dat (.list odd9), .un, .un, .un, .un, .un, .un]) rfl ?_
  have o1 : sOwnD 4 (eLc (iOf (eVar 1)) (tName 6) bYes (eTup (aCons (eVar 6) (aCons (eOp addD (eC (.int 1)) (eCall f__law_draw (aCons (eVar 0) (aCons (eC (.int 9)) aNil)))) aNil))) [6]) [.dat potD, .dat (.list (zs.map .str)), .dat (encL l), .dat (.list odd9), .un, .un, .un, .un, .un, .un] p1 = some (.nx (S10 (.dat (.list (zs.map .str))) (.dat (encL l)) (.own (.dict es0)) .un .un .un .un), p2) := by
    unfold sOwnD
    rw [e2, bindP_some, hd]
    rfl
  rw [sSeq_nx o1]
  have a1 := lc_enc (e := encP) (xs := l) (g := fun q => PyData.str q.1) (it := iOf (eVar 2)) (t := tTup 2 (tlCons (tName 6) (tlCons (tName 9) tlNil))) (test := bYes) (elt := eVar 6) (vs := [6, 9]) (S0 := S10 (.dat (.list (zs.map .str))) (.dat (encL l)) (.own (.dict es0)) .un .un .un .un) (ps := p2) rfl (by omega) fun q hq => lcS_at (S1 := [.dat potD, .dat (.list (zs.map .str)), .dat (encL l), .dat (.list odd9), .own (.dict es0), .un, .dat (.str q.1), .un, .un, .dat (.int q.2)]) rfl rfl
  have em : (l.map fun q => PyData.str q.1) = (l.map (·.1)).map .str := by rw [List.map_map]; rfl
  rw [em] at a1
  refine seq_set (d := .list (N.map .str)) (p := p3) (eCall_at (a3_at rfl a1 rfl) e5) (S1 := S10 (.dat (.list (zs.map .str))) (.dat (encL l)) (.own (.dict es0)) (.dat (.list (N.map .str))) .un .un .un) rfl ?_
  have f1 : sFor (iOf (eVar 5)) (tName 6) bdS (S10 (.dat (.list (zs.map .str))) (.dat (encL l)) (.own (.dict es0)) (.dat (.list (N.map .str))) .un .un .un) p3 = some (.nx (S10 (.dat (.list (zs.map .str))) (.dat (encL l)) (.own (.dict es)) (.dat (.list (N.map .str))) x6 .un .un), p4) := by
    unfold sFor
    rw [show iOf (eVar 5) (S10 (.dat (.list (zs.map .str))) (.dat (encL l)) (.own (.dict es0)) (.dat (.list (N.map .str))) .un .un .un) p3 = some (N.map .str, p3) from rfl, bindP_some]
    exact e6
  rw [sSeq_nx f1]
  have hNo : ∀ y ∈ N, PyData.strOk y = true := fun y hy => strOk_name (hz.ok.nm y (hNz y hy))
  have a2 := lc_opt (e := encP) (xs := l) (g := fun q => if decide (q.1 ∈ N) then some (PyData.str q.1) else none) (it := iOf (eVar 2)) (t := tTup 2 (tlCons (tName 6) (tlCons (tName 9) tlNil))) (test := asB (eOp (inD false) (eVar 6) (eVar 5))) (elt := eVar 6) (vs := [6, 9]) (S0 := S10 (.dat (.list (zs.map .str))) (.dat (encL l)) (.own (.dict es)) (.dat (.list (N.map .str))) x6 .un .un) (ps := p4) rfl (by omega) fun q hq => lcS_if (S1 := [.dat potD, .dat (.list (zs.map .str)), .dat (encL l), .dat (.list odd9), .own (.dict es), .dat (.list (N.map .str)), .dat (.str q.1), .un, .un, .dat (.int q.2)]) rfl (asB_at (eOp_at (g := eVar 6) (h := eVar 5) rfl rfl (in_strs (strOk_name (hl.ok.nm q hq)) hNo))) (fun _ => rfl)
  have hfirst : ∃ r, (l.filterMap fun q => if decide (q.1 ∈ N) = true then some (PyData.str q.1) else none) = .str p.1 :: r := by
    have h0 : (l1.filterMap fun q => if decide (q.1 ∈ N) = true then some (PyData.str q.1) else none) = [] := by
      rw [List.filterMap_eq_nil_iff]
      intro y hy
      rw [if_neg (by simpa using hl1 y hy)]
    rw [el, List.filterMap_append, h0, List.nil_append, List.filterMap_cons, if_pos (decide_eq_true hpN)]
    exact ⟨_, rfl⟩
  obtain ⟨r, hfr⟩ := hfirst
  rw [hfr] at a2
  refine seq_set (d := .str p.1) (p := p4) (eOp_at (o := ixD) a2 (h := eC (.int 0)) rfl (at_zero _ _)) (S1 := S10 (.dat (.list (zs.map .str))) (.dat (encL l)) (.own (.dict es)) (.dat (.list (N.map .str))) x6 (.dat (.str p.1)) .un) rfl ?_
  show sRet _ (S10 (.dat (.list (zs.map .str))) (.dat (encL l)) (.dat (.dict es)) (.dat (.list (N.map .str))) x6 (.dat (.str p.1)) .un) p4 = _
  have a3 := lc_enc (e := fun (i : Nat) => PyData.int (i : Int)) (xs := List.range 2) (g := fun _ => PyData.str (dueS "sizes" (.str p.1))) (it := iRange (aCons (eC (.int 2)) aNil)) (t := tName 8) (test := bYes) (elt := eTold ft__law_told l__law_sizes_right_0) (vs := [8]) (S0 := S10 (.dat (.list (zs.map .str))) (.dat (encL l)) (.dat (.dict es)) (.dat (.list (N.map .str))) x6 (.dat (.str p.1)) .un) (ps := p4) (range_at (n := 2) (by omega) rfl) (by simp) fun i _ => lcS_at (S1 := [.dat potD, .dat (.list (zs.map .str)), .dat (encL l), .dat (.list odd9), .dat (.dict es), .dat (.list (N.map .str)), x6, .dat (.str p.1), .dat (.int (i : Int)), .un]) rfl (told_sizes hrp (th := fun q => l__law_sizes_right_0 [.dat potD, .dat (.list (zs.map .str)), .dat (encL l), .dat (.list odd9), .dat (.dict es), .dat (.list (N.map .str)), x6, .dat (.str p.1), .dat (.int (i : Int)), .un] q) (eCall_at (aCons_two (var_at rfl) (var_at rfl)) (hsz p4)))
  have hso : PyData.strOk (dueS "sizes" (.str p.1)) = true := ok_ro a_sizes hrp
  refine sRet_at (eOp_at a3 (y := .list ([dueS "sizes" (.str p.1), dueS "sizes" (.str p.1)].map .str)) (by
    unfold eNewL
    rw [rep_at (k := 2) (fit_at (aCons_one (eCB_at (aCons_one (lst_at (aCons_two (p1 := p4) rfl (var_at (j := 7) (d := .str p.1) rfl)) (by simp))) (repr2_ro a_sizes hrp))) (by simp)) (p := p4) (p1 := p4) rfl (by omega) (by simp), bindP_some]
    rfl) ?_)
  have e9 : ((List.range 2).map fun _ => PyData.str (dueS "sizes" (.str p.1))) = [dueS "sizes" (.str p.1), dueS "sizes" (.str p.1)].map .str := rfl
  have hs2 : ∀ z ∈ [dueS "sizes" (.str p.1), dueS "sizes" (.str p.1)], PyData.strOk z = true := fun z hz' => by
    simp only [List.mem_cons, List.not_mem_nil, or_false, or_self] at hz'
    rw [hz']
    exact hso
  rw [e9, eq_strs hs2 hs2, decide_eq_true rfl]
end W12
set_option Elab.async false
set_option linter.all false
set_option maxRecDepth 100000
set_option maxHeartbeats 8000000
namespace W12
open PySem L2 DL PL
local instance : TBL := ⟨[], fun _ => 0, fun _ => [], fun _ => none, w00⟩
def NB (d : PyData) : Prop := wf 12 d = true ∧ nameOk d = false
theorem nb_str {z : Str} (h : Asc z) (hn : nameS z = false) : NB (.str z) := ⟨asc_wf h, hn⟩
theorem asc_app {a b : Str} (ha : nameS a = true) (hb : Asc b) (hl : b.length ≤ 10) : Asc (a ++ b) ∧ Asc (b ++ a) := by
  have h8 := (name_parts ha).2.1
  have h1 := (asc_name ha).1
  refine ⟨⟨fun c hc => ?_, by rw [app_len]; omega⟩, ⟨fun c hc => ?_, by rw [app_len]; omega⟩⟩
  · rw [TL.tl_append] at hc
    rcases List.mem_append.mp hc with hc | hc
    · exact h1 c hc
    · exact hb.1 c hc
  · rw [TL.tl_append] at hc
    rcases List.mem_append.mp hc with hc | hc
    · exact hb.1 c hc
    · exact h1 c hc
theorem nb_r {w s : Str} {c : Nat} (hw : nameS w = true) (hs : Asc s) (hl : s.length ≤ 10) (hc : c ∈ TL.tl s) (h : ¬ (97 ≤ c ∧ c ≤ 122)) : NB (.str (w ++ s)) := nb_str (asc_app hw hs hl).1 (by
  have := nameS_no (l := TL.tl (w ++ s)) (c := c) (by rw [TL.tl_append]; exact List.mem_append_right _ hc) h
  rwa [mk_tl] at this)
theorem nb_l {w s : Str} {c : Nat} (hw : nameS w = true) (hs : Asc s) (hl : s.length ≤ 10) (hc : c ∈ TL.tl s) (h : ¬ (97 ≤ c ∧ c ≤ 122)) : NB (.str (s ++ w)) := nb_str (asc_app hw hs hl).2 (by
  have := nameS_no (l := TL.tl (s ++ w)) (c := c) (by rw [TL.tl_append]; exact List.mem_append_left _ hc) h
  rwa [mk_tl] at this)
theorem asc_lit {z : Str} (h : (TL.tl z).all (fun c => decide (c < 128)) = true) (hl : z.length ≤ 10) : Asc z := ⟨fun c hc => of_decide_eq_true (List.all_eq_true.mp h c hc), by omega⟩
def nmA (w : Str) : List PyData := [.str (Str.ofString ""), .str (Txt.upper w), .str (w ++ Str.ofString "1"), .str (w ++ Str.ofString " "), .str (Str.ofString " " ++ w), .str (w ++ Str.ofString "_"), .str (Str.ofString "abcdefghi"), .str (w ++ Str.ofString "\n"), .int 1, .none]
def nmB (w r : Str) : List PyData := [.bool true, .tuple [.str w], .list [.str w], .dict [], .str r, .str (w ++ Str.ofString "-"), .str (Str.ofString "aB"), .str (Str.ofString "-")]
theorem nm_bad {w r : Str} (hw : nameS w = true) (hr : r ∈ RES) : ∀ d ∈ nmA w ++ nmB w r, NB d := by
  have ar := res_asc r hr
  have au := up_name hw
  intro d hd
  rcases List.mem_append.mp hd with hd | hd
  · simp only [nmA, List.mem_cons, List.not_mem_nil, or_false] at hd
    rcases hd with rfl | rfl | rfl | rfl | rfl | rfl | rfl | rfl | rfl | rfl
    · exact nb_str (asc_lit (by decide +kernel) (by decide +kernel)) (by decide +kernel)
    · exact nb_str au.2.2 au.2.1
    · exact nb_r (c := 49) hw (asc_lit (by decide +kernel) (by decide +kernel)) (by decide +kernel) (by decide +kernel) (by omega)
    · exact nb_r (c := 32) hw (asc_lit (by decide +kernel) (by decide +kernel)) (by decide +kernel) (by decide +kernel) (by omega)
    · exact nb_l (c := 32) hw (asc_lit (by decide +kernel) (by decide +kernel)) (by decide +kernel) (by decide +kernel) (by omega)
    · exact nb_r (c := 95) hw (asc_lit (by decide +kernel) (by decide +kernel)) (by decide +kernel) (by decide +kernel) (by omega)
    · exact nb_str (asc_lit (by decide +kernel) (by decide +kernel)) (by decide +kernel)
    · exact nb_r (c := 10) hw (asc_lit (by decide +kernel) (by decide +kernel)) (by decide +kernel) (by decide +kernel) (by omega)
    · exact ⟨by decide, rfl⟩
    · exact ⟨rfl, rfl⟩
  · simp only [nmB, List.mem_cons, List.not_mem_nil, or_false] at hd
    rcases hd with rfl | rfl | rfl | rfl | rfl | rfl | rfl | rfl
    · exact ⟨rfl, rfl⟩
    · exact ⟨(flat_tup (by simp) (fun d hd => by rw [List.mem_singleton.mp hd]; exact at_str (asc_name hw))).w, rfl⟩
    · exact ⟨(flat_lst (by simp) (fun d hd => by rw [List.mem_singleton.mp hd]; exact at_str (asc_name hw))).w, rfl⟩
    · exact ⟨rfl, rfl⟩
    · exact nb_str ⟨fun x hx => of_decide_eq_true (List.all_eq_true.mp ar.1 x hx), ar.2.1⟩ ar.2.2
    · exact nb_r (c := 45) hw (asc_lit (by decide +kernel) (by decide +kernel)) (by decide +kernel) (by decide +kernel) (by omega)
    · exact nb_str (asc_lit (by decide +kernel) (by decide +kernel)) (by decide +kernel)
    · exact nb_str (asc_lit (by decide +kernel) (by decide +kernel)) (by decide +kernel)
theorem repr_res : reprD k_RESERVED = some (.str k_RESERVED.shown) := repr_at rfl (by decide +kernel) (by decide +kernel) (by decide +kernel) (by decide +kernel)
theorem sort_res : RES.mergeSort leS = RES := List.mergeSort_of_pairwise (by decide +kernel)
theorem names_right_at {ps : Pt} (hp : POk ps) : ∃ p', POk p' ∧ f__law_names_right [potD] ps = some (.bool true, p') := by
  obtain ⟨w, p1, ok1, hw, _, _, e1⟩ := name_dr (tk := []) (by decide) (fun y hy => by cases hy) hp
  let St (x2 x3 : SV) : Sd := [.dat potD, .dat (.str w), x2, x3]
  obtain ⟨r0, hr0, p2, ok2, e2⟩ := pick_at (S0 := St (.dat (.list (nmA w))) .un) (ps := p1) (p1 := p1) (g := eCall f__law_words aNil) (x := .list (RES.map .str)) (ds := RES.map .str) rfl (eCall_at (gs := aNil) rfl (words_at p1)) (.inl rfl) ok1 (by decide +kernel) (by decide +kernel)
  obtain ⟨r, hr, rfl⟩ := List.mem_map.mp hr0
  obtain ⟨d, hd, p3, ok3, e3⟩ := pick_at (S0 := St (.dat (.list (nmA w ++ nmB w r))) .un) (ps := p2) (p1 := p2) (g := eVar 2) (x := .list (nmA w ++ nmB w r)) (ds := nmA w ++ nmB w r) rfl rfl (.inl rfl) ok2 (by simp [nmA]) (by simp [nmA, nmB])
  obtain ⟨n1, n2⟩ := nm_bad hw hr d hd
  have h8 := (name_parts hw).2.1
  have h1 : ∀ x2 x3 : SV, (St x2 x3)[1]? = some (.dat (.str w)) := fun _ _ => rfl
  refine ⟨p3, ok3, ?_⟩
  apply run_rt
  show g__law_names_right [.dat potD, .un, .un, .un] ps = _
  unfold g__law_names_right
  refine seq_set (d := .str w) (p := p1) (S1 := St .un .un) (eCall_at (aCons_two (x := potD) (y := .list []) rfl rfl) e1) rfl ?_
  have hup : upperD (.str w) = some (.str (Txt.upper w)) := by
    show (if w.length ≤ 1000 then _ else _) = _
    rw [if_pos (by omega)]
  refine seq_set (d := .list (nmA w)) (p := p1) (lst_at (aCons_at (p := p1) rfl (aCons_at (eUn_at (var_at (h1 _ _)) hup) (aCons_at (vR (h1 _ _) (by omega) (by decide +kernel)) (aCons_at (vR (h1 _ _) (by omega) (by decide +kernel)) (aCons_at (vL (h1 _ _) (by omega) (by decide +kernel)) (aCons_at (vR (h1 _ _) (by omega) (by decide +kernel)) (aCons_at (p := p1) rfl (aCons_at (vR (h1 _ _) (by omega) (by decide +kernel)) (aCons_at (p := p1) rfl (aCons_at (p := p1) rfl rfl)))))))))) (by simp [nmA])) (S1 := St (.dat (.list (nmA w))) .un) rfl ?_
  refine seq_set (d := .list (nmA w ++ nmB w r)) (p := p2) (eOp_at (g := eVar 2) (y := .list (nmB w r)) rfl (lst_at (ds := nmB w r) (aCons_at (p := p1) rfl (aCons_at (p := p1) rfl (aCons_at (p := p1) rfl (aCons_at (p := p1) rfl (aCons_at e2 (aCons_at (vR (h1 _ _) (by omega) (by decide +kernel)) (aCons_at (p := p2) rfl (aCons_at (p := p2) rfl rfl)))))))) (by simp [nmB])) (add_lists (by simp [nmA, nmB]))) (S1 := St (.dat (.list (nmA w ++ nmB w r))) .un) rfl ?_
  have is : ∀ (s : String) q, nameS (Str.ofString s) = true → f_is_name [.str (Str.ofString s)] q = some (.bool true, q) := fun s q h => is_name_at h q
  have i2 : f_is_name [d] p3 = some (.bool false, p3) := by
    rw [e_is_name, is_name p3 n1, n2]
  refine seq_set (d := .list [.bool true, .bool false, .bool true, .bool true, .bool true]) (p := p3) (lst_at (aCons_at (eCall_at (aCons_one (var_at (h1 _ _))) (is_name_at hw p2)) (aCons_at (eCall_at (aCons_one e3) i2) (aCons_at (callK1 (p := p3) rfl (is "abcdefgh" p3 (by decide +kernel))) (aCons_at (eCall_at (aCons_one (p1 := p3) rfl) (is "callx" p3 (by decide +kernel))) (aCons_at (eCall_at (aCons_one (p1 := p3) rfl) (is "e" p3 (by decide +kernel))) rfl))))) (by simp)) (S1 := St (.dat (.list (nmA w ++ nmB w r))) (.dat (.list [.bool true, .bool false, .bool true, .bool true, .bool true]))) rfl ?_
  have rb := repr_ro (ds := [.bool true, .bool false, .bool true, .bool true, .bool true]) (by simp) (fun d hd => by
    simp only [List.mem_cons, List.not_mem_nil, or_false] at hd
    rcases hd with rfl | rfl | rfl | rfl | rfl <;> exact (at_bool _).ro)
  have eqs : ∀ z : Str, eqD (.str z) (.str z) = some (.bool true) := fun z => by
    show orD eqS eqD0 (.str z) (.str z) = _
    simp [orD, eqS]
  have q1 := eOp_at (o := eqD) (S := St (.dat (.list (nmA w ++ nmB w r))) (.dat (.list [.bool true, .bool false, .bool true, .bool true, .bool true]))) (ps := p3) (g := eCB (one reprD) (aCons (eVar 3) aNil)) (h := eCB (one reprD) (aCons (eLst (aCons (eC (.bool true)) (aCons (eC (.bool false)) (aCons (eC (.bool true)) (aCons (eC (.bool true)) (aCons (eC (.bool true)) aNil)))))) aNil)) (eCB_at (aCons_one (p1 := p3) rfl) rb) (eCB_at (aCons_one (p1 := p3) rfl) rb) (eqs _)
  have e6 : eCB (one tupleD) (aCons (eCB (one sortSD) (aCons (eCall f__law_words aNil) aNil)) aNil) (St (.dat (.list (nmA w ++ nmB w r))) (.dat (.list [.bool true, .bool false, .bool true, .bool true, .bool true]))) p3 = some (k_RESERVED, p3) := by
    refine eCB_at (aCons_one (eCB_at (aCons_one (eCall_at (gs := aNil) rfl (words_at p3))) (sort_strs (by decide +kernel)))) ?_
    rw [sort_res]
    rfl
  have q2 := eOp_at (o := eqD) (S := St (.dat (.list (nmA w ++ nmB w r))) (.dat (.list [.bool true, .bool false, .bool true, .bool true, .bool true]))) (ps := p3) (g := eCB (one reprD) (aCons (eC k_RESERVED) aNil)) (h := eCB (one reprD) (aCons (eCB (one tupleD) (aCons (eCB (one sortSD) (aCons (eCall f__law_words aNil) aNil)) aNil)) aNil)) (eCB_at (aCons_one (p1 := p3) rfl) repr_res) (eCB_at (aCons_one e6) repr_res) (eqs _)
  exact sRet_at (eAnd_at (b := true) (c := true) q1 fun _ => q2)
theorem right {ps : Pt} (hp : POk ps) : ∃ p' : Pt, f__law_right [potD] ps = some (.bool true, p') := by
  obtain ⟨v, p1, ok1, hv, e1⟩ := draw_v (S0 := [.dat potD, .un, .un, .un]) (ps := ps) (p1 := ps) (gm := eC (.int 6)) (m := 6) rfl rfl (by omega) (by omega) hp
  obtain ⟨zs, p2, ok2, hzl, hnm, e2⟩ := names_dr (tk := []) (n := 1 + v) (by simp; omega) (fun y hy => by cases hy) ok1
  have hz : Fr zs := ⟨⟨hnm.nd, hnm.nm, by omega⟩, fun z => by rw [z] at hzl; simp at hzl; omega⟩
  have e2' : eCall f__law_names (aCons (eVar 0) (aCons (eOp addD (eC (.int 1)) (eCall f__law_draw (aCons (eVar 0) (aCons (eC (.int 6)) aNil)))) (aCons (eLst aNil) aNil))) [.dat potD, .un, .un, .un] ps = some (.list (zs.map .str), p2) := by
    refine eCall_at (aCons_at (x := potD) rfl (aCons_two (eOp_at rfl e1 (add_ii 1 _)) (y := .list []) rfl)) ?_
    rw [show (1 : Int) + (v : Int) = ((1 + v : Nat) : Int) by omega]
    exact e2
  let body : SG := sSeq (sIf (bOr (bNot (asB (eCall f__law_lines_right (aCons (eVar 0) (aCons (eVar 1) aNil))))) (bNot (asB (eCall f__law_sizes_right (aCons (eVar 0) (aCons (eVar 1) aNil)))))) (sRet (eC (.bool false))) sNil) (sIf (bOr (bNot (asB (eCall f__law_texts_right (aCons (eVar 0) (aCons (eVar 1) aNil))))) (bNot (asB (eCall f__law_names_right (aCons (eVar 0) aNil))))) (sRet (eC (.bool false))) sNil)
  have step : ∀ x ∈ rangeD 12, ∀ (j : Nat) (S : Sd) (p : Pt), j < 0 + (rangeD 12).length → (∃ x2 : SV, S = [.dat potD, .dat (.list (zs.map .str)), x2, .un]) → POk p → ∃ (S0 S1 : Sd) (p' : Pt), tName 2 x S = some S0 ∧ body S0 p = some (.nx S1, p') ∧ (∃ x2 : SV, S1 = [.dat potD, .dat (.list (zs.map .str)), x2, .un]) ∧ POk p' := by
    rintro x _ j S p _ ⟨x2, rfl⟩ hp
    obtain ⟨q1, o1, g1⟩ := lines_right_at hz hp
    obtain ⟨q2, o2, g2⟩ := sizes_right_at hz o1
    obtain ⟨q3, o3, g3⟩ := texts_right_at hz o2
    obtain ⟨q4, o4, g4⟩ := names_right_at o3
    refine ⟨[.dat potD, .dat (.list (zs.map .str)), .dat x, .un], [.dat potD, .dat (.list (zs.map .str)), .dat x, .un], q4, rfl, ?_, ⟨_, rfl⟩, o4⟩
    have b1 : bNot (asB (eCall f__law_lines_right (aCons (eVar 0) (aCons (eVar 1) aNil)))) [.dat potD, .dat (.list (zs.map .str)), .dat x, .un] p = some (false, q1) := bNot_at (asB_at (eCall_at (aCons_two (x := potD) (y := .list (zs.map .str)) rfl rfl) g1))
    have b2 : bNot (asB (eCall f__law_sizes_right (aCons (eVar 0) (aCons (eVar 1) aNil)))) [.dat potD, .dat (.list (zs.map .str)), .dat x, .un] q1 = some (false, q2) := bNot_at (asB_at (eCall_at (aCons_two (x := potD) (y := .list (zs.map .str)) rfl rfl) g2))
    have b3 : bNot (asB (eCall f__law_texts_right (aCons (eVar 0) (aCons (eVar 1) aNil)))) [.dat potD, .dat (.list (zs.map .str)), .dat x, .un] q2 = some (false, q3) := bNot_at (asB_at (eCall_at (aCons_two (x := potD) (y := .list (zs.map .str)) rfl rfl) g3))
    have b4 : bNot (asB (eCall f__law_names_right (aCons (eVar 0) aNil))) [.dat potD, .dat (.list (zs.map .str)), .dat x, .un] q3 = some (false, q4) := bNot_at (asB_at (eCall_at (aCons_one (x := potD) rfl) g4))
    have t1 : bOr (bNot (asB (eCall f__law_lines_right (aCons (eVar 0) (aCons (eVar 1) aNil))))) (bNot (asB (eCall f__law_sizes_right (aCons (eVar 0) (aCons (eVar 1) aNil))))) [.dat potD, .dat (.list (zs.map .str)), .dat x, .un] p = some (false, q2) := by
      unfold bOr
      rw [b1, bindP_some, if_neg (by decide)]
      exact b2
    have t2 : bOr (bNot (asB (eCall f__law_texts_right (aCons (eVar 0) (aCons (eVar 1) aNil))))) (bNot (asB (eCall f__law_names_right (aCons (eVar 0) aNil)))) [.dat potD, .dat (.list (zs.map .str)), .dat x, .un] q2 = some (false, q4) := by
      unfold bOr
      rw [b3, bindP_some, if_neg (by decide)]
      exact b4
    refine seq_no t1 ?_
    rw [sIf_at t2]
    rfl
  obtain ⟨S1, p', e, ⟨x2, rfl⟩, ok⟩ := for_inv (I := fun _ S => ∃ x2 : SV, S = [.dat potD, .dat (.list (zs.map .str)), x2, .un]) (rangeD 12) 0 step [.dat potD, .dat (.list (zs.map .str)), .un, .un] p2 ⟨.un, rfl⟩ ok2
  refine ⟨p', ?_⟩
  apply run_rt
  show g__law_right [.dat potD, .un, .un, .un] ps = _
  unfold g__law_right
  refine seq_set (S1 := [.dat potD, .dat (.list (zs.map .str)), .un, .un]) e2' rfl ?_
  have ef : sFor (iRange (aCons (eC (.int 12)) aNil)) (tName 2) body [.dat potD, .dat (.list (zs.map .str)), .un, .un] p2 = some (.nx [.dat potD, .dat (.list (zs.map .str)), x2, .un], p') := by
    unfold sFor
    have ei : iRange (aCons (eC (.int 12)) aNil) [.dat potD, .dat (.list (zs.map .str)), .un, .un] p2 = some (rangeD 12, p2) := range_at (n := 12) (by decide) rfl
    rw [ei, bindP_some]
    exact e
  rw [sSeq_nx ef]
  have a1 := lc_enc (e := PyData.str) (xs := RES) (g := fun _ => PyData.bool true) (it := iOf (eCall f__law_words aNil)) (t := tName 3) (test := bYes) (elt := eNotV (eCall f_is_name (aCons (eVar 3) aNil))) (vs := [3]) (S0 := [.dat potD, .dat (.list (zs.map .str)), x2, .un]) (ps := p') (by
    unfold iOf
    rw [eCall_at (gs := aNil) rfl (words_at p'), bindP_some]
    rfl) (by decide +kernel) fun z hz => lcS_at (S1 := [.dat potD, .dat (.list (zs.map .str)), x2, .dat (.str z)]) rfl (by
      have ar := res_asc z hz
      have e : f_is_name [.str z] p' = some (.bool false, p') := by
        rw [e_is_name, is_name (w := 12) p' (asc_wf ⟨fun x hx => of_decide_eq_true (List.all_eq_true.mp ar.1 x hx), ar.2.1⟩)]
        show some (PyData.bool (nameS z), p') = _
        rw [ar.2.2]
      unfold eNotV
      rw [eCall_at (aCons_one (g1 := eVar 3) (x := .str z) (p1 := p') rfl) e]
      rfl)
  refine sRet_at (eCB_at (aCons_one a1) ?_)
  rw [allD_bools (fun _ => true) RES, List.all_eq_true.mpr (fun _ _ => rfl)]
theorem hlaw (ns : List Int) (_ : ns.length ≤ 63) (_ : ∀ z ∈ ns, Builtin.Int.intBits z ≤ 1048576) : ∃ ps, f_law [.list (ns.map .int)] (0, 0, 0) = some (.bool true, ps) := by
  refine ⟨(0, 0, 0), ?_⟩
  have hj : ∃ j : Int, 1 ≤ j ∧ j ≤ 4 ∧ (eCB max2 (aCons (eC (.int 1)) (aCons (eCB min2 (aCons (eCB (one lenD) (aCons (eVar 0) aNil)) (aCons (eC (.int 4)) aNil))) aNil))) [.dat (.list (ns.map .int)), .un] (0, 0, 0) = some (.int j, (0, 0, 0)) := by
    refine ⟨if (if 4 < (ns.length : Int) then 4 else (ns.length : Int)) > 1 then (if 4 < (ns.length : Int) then 4 else (ns.length : Int)) else 1, by split <;> split <;> omega, by split <;> split <;> omega, ?_⟩
    simp [eCB, aCons, aNil, eC, eVar, bindP, one, lenD, min2, max2]
  obtain ⟨j, j0, j1, ej⟩ := hj
  obtain ⟨n, rfl⟩ := Int.eq_ofNat_of_zero_le (show 0 ≤ j by omega)
  have hr : iRange (aCons (eCB max2 (aCons (eC (.int 1)) (aCons (eCB min2 (aCons (eCB (one lenD) (aCons (eVar 0) aNil)) (aCons (eC (.int 4)) aNil))) aNil))) aNil) [.dat (.list (ns.map .int)), .un] (0, 0, 0) = some (rangeD n, (0, 0, 0)) := range_at (by omega) (aCons_one ej)
  have rl : (rangeD n).length = n := by unfold rangeD; rw [List.length_map, List.length_range]
  have e := lc_true (it := iRange (aCons (eCB max2 (aCons (eC (.int 1)) (aCons (eCB min2 (aCons (eCB (one lenD) (aCons (eVar 0) aNil)) (aCons (eC (.int 4)) aNil))) aNil))) aNil)) (t := tName 1) (elt := eCallPot f__law_right f__law_pot (aCons (eVar 0) (aCons (eVar 1) aNil))) (vs := [1]) (S0 := [.dat (.list (ns.map .int)), .un]) (ps := (0, 0, 0)) (xs := rangeD n) hr (by omega) fun x hx => by
    unfold rangeD at hx
    obtain ⟨i, hi, rfl⟩ := List.mem_map.mp hx
    have hi2 := List.mem_range.mp hi
    obtain ⟨a, b, e1, ok⟩ := pot_ok ns i (0, 0, 0) (by omega)
    obtain ⟨p', e2⟩ := right (ok 0)
    refine lcS_dr (S1 := [.dat (.list (ns.map .int)), .dat (.int i)]) rfl ?_
    have e1' : f__law_pot [.list (ns.map .int), .int i] (0, 0, 0) = some ([.int a, .int b], (0, 0, 0)) := e1
    unfold eCallPot
    rw [aCons_two (g1 := eVar 0) (g2 := eVar 1) (x := .list (ns.map .int)) (y := .int i) (p1 := (0, 0, 0)) (p2 := (0, 0, 0)) rfl rfl, bindP_some, e1']
    dsimp only
    rw [e2]
    rfl
  apply run_rt
  show g_law [.dat (.list (ns.map .int)), .un] (0, 0, 0) = _
  unfold g_law
  refine sRet_at (eCB_at (aCons_one e) ?_)
  have ha : ∀ us : List PyData, us.length ≤ 1000 → one allD [.list (us.map fun _ => .bool true)] = some (.bool true) := fun us _ => by rw [allD_bools (fun _ => true) us, List.all_eq_true.mpr (fun _ _ => rfl)]
  exact ha _ (by omega)
end W12
set_option Elab.async false
set_option linter.all false
set_option maxRecDepth 100000
set_option maxHeartbeats 2000000
namespace DX
open PySem PySem.W PySem.Calls PyProof.Rows PySem.HandSPX Builtin Builtin.ObjectAttr
theorem look_mem {α β : Type} [BEq α] [LawfulBEq α] {c : α} {b : β} : ∀ {l : List (α × β)}, l.lookup c = some b → (c, b) ∈ l
  | [], h => by cases h
  | (d, e) :: r, h => by
    rw [List.lookup_cons] at h
    split at h
    · next z =>
      have z : c = d := beq_iff_eq.mp z
      cases h
      subst z
      exact List.mem_cons_self
    · exact List.mem_cons_of_mem _ (look_mem h)
def exB (K : Frag) (C fI : Addr) (B newId initId : String) (bmB : List Value) : Bool :=
  excInitIn K C bmB newId && (excOver K C bmB && (decide (findIn K (.ref C) "__init__" = some (some (.ref fI))) && (decide (typeIn K (.ref fI) = some (.type "function")) && (keepIn K (.ref C) && (decide (subIn K (.ref C) (.type "BaseException") = some true) && (decide (typeIn K (.ref C) = some (.type "type")) && (hasDictIn K C && (decide (findIn K (.ref C) "__setattr__" = some (some (.builtin "object.__setattr__"))) && (decide (ks_superIn K C C "__init__" = some (some (.builtin initId))) && (decide (subIn K (.ref C) (.type B) = some true) && decide (mroIn K C (.ref C) = some true)))))))))))
structure ExF (K : Frag) (C fI : Addr) (B newId initId : String) (bmB : List Value) : Prop where
  ei : excInitIn K C bmB newId = true
  ov : excOver K C bmB = true
  iC : findIn K (.ref C) "__init__" = some (some (.ref fI))
  tC : typeIn K (.ref fI) = some (.type "function")
  kC : keepIn K (.ref C) = true
  exC : subIn K (.ref C) (.type "BaseException") = some true
  tyC : typeIn K (.ref C) = some (.type "type")
  hdC : hasDictIn K C = true
  sa : findIn K (.ref C) "__setattr__" = some (some (.builtin "object.__setattr__"))
  sup : ks_superIn K C C "__init__" = some (some (.builtin initId))
  sB : subIn K (.ref C) (.type B) = some true
  sC : mroIn K C (.ref C) = some true
theorem exB_ok {K : Frag} {C fI : Addr} {B newId initId : String} {bmB : List Value} (h : exB K C fI B newId initId bmB = true) : ExF K C fI B newId initId bmB := by
  unfold exB at h
  simp only [Bool.and_eq_true, decide_eq_true_eq] at h
  obtain ⟨h1, h2, h3, h4, h5, h6, h7, h8, h9, h10, h11, h12⟩ := h
  exact ⟨h1, h2, h3, h4, h5, h6, h7, h8, h9, h10, h11, h12⟩
theorem exC_of {prog : Program} {K : Frag} {mg : Str → Option Value} {C fI cda cc : Addr} {q : Str} {params : Arguments} {body : List Stmt} {scope : Scope} {B newId initId : String} {bmB : List Value} (bt : BaseT B newId initId bmB) (h : exB K C fI B newId initId bmB = true)
    (opq : nsIn K cStatics "thirdparty.any" = some none) (spn : mg "super" = none) (top : (prog.main.scope.names.lookup ("super" : Str)).isSome = false)
    (fn : ∃ (oc : Value) (od : Option Addr) (doc pm : Value) (an : Option Addr) (ct : Value) (osl : Array (Option Value)), K.lookup fI = some ⟨oc, od, .func (ksFn "__init__" q params body scope .none .none doc pm an (.ref cda) ct cc), osl⟩ ∧ codeIn K (.ref cda) q = true)
    (cell : ∃ (cl : Value) (cld : Option Addr) (csl : Array (Option Value)), K.lookup cc = some ⟨cl, cld, .cell (some (.ref C)), csl⟩)
    (code : ∃ (ccl : Value) (cdd : Option Addr) (ccs : Array (Option Value)) (vs : Array Value) (file : Str) (tf : Tok), K.lookup cda = some ⟨ccl, cdd, .fields vs, ccs⟩ ∧ vs[2]? = some (.str file tf) ∧ ((prog.main.file : Str) == file) = true)
    (k1 : scope.names.lookup ("super" : Str) = some .globalImplicit) (k2 : scope.names.lookup ("__class__" : Str) = some .free) (k3 : scope.names.lookup ("self" : Str) = some .local) (k4 : scope.kind = .function) (k5 : scope.isCoroutine = false) (k6 : scope.isGenerator = false) (k7 : ∀ y ∈ scope.names, y.2 ≠ .cell) (par : ∃ a0 rest, params = iPar (a0 :: rest) ∧ a0.arg = "self") :
    ExC prog K mg C fI cda cc q params body scope B newId initId bmB :=
  have z := exB_ok h
  ⟨bt, z.ei, z.ov, z.iC, z.tC, z.kC, z.exC, z.tyC, z.hdC, z.sa, z.sup, z.sB, z.sC, opq, spn, top, fn, cell, code, k1, k2, k3, k4, k5, k6, k7, par⟩
abbrev CT := List (Str × Addr)
abbrev cOf (ct : CT) (c : Str) : Addr := (ct.lookup c).getD 0
abbrev fOf (ft : List (Str × List Str)) (c : Str) : List Str := (ft.lookup c).getD []
def noB (K : Frag) (C : Addr) (f : Str) : Bool := decide (findIn K (.ref C) f = some none)
theorem noB_ok {K : Frag} {C : Addr} {f : Str} (h : noB K C f = true) : findIn K (.ref C) f = some none := of_decide_eq_true h
def ecB (K : Frag) (C : Addr) : Bool := L2.xfB K C && (decide (findIn K (.ref C) "__class__" = some (some (.builtin "object.__class__"))) && decide (mroIn K C (.type "object") = some true))
theorem ecB_ok {K : Frag} {C : Addr} (h : ecB K C = true) (i1 : specialIn K (.builtin "object.__class__") "__get__" = some (some (.builtin "getset_descriptor.__get__"))) (i2 : takesIn K (.builtin "object.__class__") = some true) : L2.ExcC K C := by
  unfold ecB at h
  simp only [Bool.and_eq_true, decide_eq_true_eq] at h
  obtain ⟨x, a, m⟩ := h
  have x := L2.xfB_ok x
  exact ⟨x.ga, x.gg, x.exC, x.hdC, a, i1, i2, m⟩
def kitB (K : Frag) (ct : CT) (ns : List Str) (tb : List (Str × Bool)) (v : Value) : Bool := tb.all fun p => ns.contains p.1 && decide (kitOne K (.ref (cOf ct p.1)) v = some p.2)
end DX
namespace DL
open PySem L2 DX
variable [TBL]
end DL
set_option Elab.async false
set_option linter.all false
set_option maxRecDepth 100000
namespace W12
open PySem L2 DL
theorem exm3_of {K : PySem.W.Frag} {cls c1 c2 c3 : Value} {b1 b2 b3 : Bool} (h1 : PySem.W.exmOne K cls c1 = some b1) (h2 : PySem.W.exmOne K cls c2 = some b2) (h3 : PySem.W.exmOne K cls c3 = some b3) (h : (b1 || (b2 || b3)) = true) : PySem.W.exmAny K cls [c1, c2, c3] = some true := by
  cases b1 <;> cases b2 <;> cases b3 <;> first | exact absurd h (by decide) | simp [PySem.W.exmAny, h1, h2, h3]
def noListB (K : PySem.W.Frag) : Bool := K.all fun p => match p.2.cls with
  | .type n => n != "list"
  | _ => true
def initS (s : Stmt) : Stmt := match s with
  | .ClassDef _ _ _ b _ _ _ _ _ _ _ => b.getD 0 (.Pass ⟨0, 0, 0, 0⟩)
  | _ => s
abbrev i_InvalidLine : Stmt := initS (topS 2)
abbrev i_InvalidCount : Stmt := initS (topS 5)
abbrev i_InvalidSizes : Stmt := initS (topS 4)
abbrev i_InvalidText : Stmt := initS (topS 3)
theorem lookup_mem {a : Addr} {o : Obj} {K : List (Addr × Obj)} (h : K.lookup a = some o) : (a, o) ∈ K := DX.look_mem h
theorem noList_of {K : PySem.W.Frag} (h : noListB K = true) (a : Addr) (o : Obj) (e : K.lookup a = some o) : o.cls ≠ .type "list" := fun z => by
  unfold noListB at h
  rw [List.all_eq_true] at h
  have h1 := h (a, o) (lookup_mem e)
  simp only [z] at h1
  exact absurd h1 (by decide)
set_option maxHeartbeats 0 in
theorem all_mk {l : PySem.W.OpenLaw} {w : World} {K : PySem.W.Frag} {h : Heap} {mg : Str → Option Value} {fa : Addr} {ts : List Addr} (X : K.In h) (G : h.Ns mainGlobals mg) (hfa : mg "law" = some (.ref fa)) (htab : ∀ P ∈ ts, h.get? P = some { cls := .none, data := .fields #[] }) (noL : noListB K = true)
    (hlaw : ∀ ns : List Int, ns.length ≤ 63 → (∀ z ∈ ns, Builtin.Int.intBits z ≤ 1048576) → ∃ ps, f_law [.list (ns.map .int)] (0, 0, 0) = some (.bool true, ps))
    {C_InvalidLine : Addr}
    {C_InvalidCount : Addr}
    {C_InvalidSizes : Addr}
    {C_InvalidText : Addr}
    {f0 : Addr} {od0 an0 : Option Addr} {sl0 : Array (Option Value)} {oc0 kV0 dc0 pm0 cd0 ct0 : Value}
    {f1 : Addr} {od1 an1 : Option Addr} {sl1 : Array (Option Value)} {oc1 kV1 dc1 pm1 cd1 ct1 : Value}
    {f2 : Addr} {od2 an2 : Option Addr} {sl2 : Array (Option Value)} {oc2 kV2 dc2 pm2 cd2 ct2 : Value}
    {f3 : Addr} {od3 an3 : Option Addr} {sl3 : Array (Option Value)} {oc3 kV3 dc3 pm3 cd3 ct3 : Value}
    {f4 : Addr} {od4 an4 : Option Addr} {sl4 : Array (Option Value)} {oc4 kV4 dc4 pm4 cd4 ct4 : Value}
    {f5 : Addr} {od5 an5 : Option Addr} {sl5 : Array (Option Value)} {oc5 kV5 dc5 pm5 cd5 ct5 : Value}
    {f6 : Addr} {od6 an6 : Option Addr} {sl6 : Array (Option Value)} {oc6 kV6 dc6 pm6 cd6 ct6 : Value}
    {f7 : Addr} {od7 an7 : Option Addr} {sl7 : Array (Option Value)} {oc7 kV7 dc7 pm7 cd7 ct7 : Value}
    {f8 : Addr} {od8 an8 : Option Addr} {sl8 : Array (Option Value)} {oc8 kV8 dc8 pm8 cd8 ct8 : Value}
    {f9 : Addr} {od9 an9 : Option Addr} {sl9 : Array (Option Value)} {oc9 kV9 dc9 pm9 cd9 ct9 : Value}
    {f10 : Addr} {od10 an10 : Option Addr} {sl10 : Array (Option Value)} {oc10 kV10 dc10 pm10 cd10 ct10 : Value}
    {f11 : Addr} {od11 an11 : Option Addr} {sl11 : Array (Option Value)} {oc11 kV11 dc11 pm11 cd11 ct11 : Value}
    {f12 : Addr} {od12 an12 : Option Addr} {sl12 : Array (Option Value)} {oc12 kV12 dc12 pm12 cd12 ct12 : Value}
    {f13 : Addr} {od13 an13 : Option Addr} {sl13 : Array (Option Value)} {oc13 kV13 dc13 pm13 cd13 ct13 : Value}
    {f14 : Addr} {od14 an14 : Option Addr} {sl14 : Array (Option Value)} {oc14 kV14 dc14 pm14 cd14 ct14 : Value}
    {f15 : Addr} {od15 an15 : Option Addr} {sl15 : Array (Option Value)} {oc15 kV15 dc15 pm15 cd15 ct15 : Value}
    {f16 : Addr} {od16 an16 : Option Addr} {sl16 : Array (Option Value)} {oc16 kV16 dc16 pm16 cd16 ct16 : Value}
    {f17 : Addr} {od17 an17 : Option Addr} {sl17 : Array (Option Value)} {oc17 kV17 dc17 pm17 cd17 ct17 : Value}
    {f18 : Addr} {od18 an18 : Option Addr} {sl18 : Array (Option Value)} {oc18 kV18 dc18 pm18 cd18 ct18 : Value}
    {f19 : Addr} {od19 an19 : Option Addr} {sl19 : Array (Option Value)} {oc19 kV19 dc19 pm19 cd19 ct19 : Value}
    {f20 : Addr} {od20 an20 : Option Addr} {sl20 : Array (Option Value)} {oc20 kV20 dc20 pm20 cd20 ct20 : Value}
    {f21 : Addr} {od21 an21 : Option Addr} {sl21 : Array (Option Value)} {oc21 kV21 dc21 pm21 cd21 ct21 : Value}
    {f22 : Addr} {od22 an22 : Option Addr} {sl22 : Array (Option Value)} {oc22 kV22 dc22 pm22 cd22 ct22 : Value}
    {f23 : Addr} {od23 an23 : Option Addr} {sl23 : Array (Option Value)} {oc23 kV23 dc23 pm23 cd23 ct23 : Value}
    {f24 c24 t24 : Addr} {ddc24 : Option Addr} {vsc24 : Array Value} {slc24 : Array (Option Value)} {od24 an24 : Option Addr} {sl24 : Array (Option Value)} {oc24 kV24 dc24 pm24 ct24 : Value}
    {f25 c25 t25 : Addr} {ddc25 : Option Addr} {vsc25 : Array Value} {slc25 : Array (Option Value)} {od25 an25 : Option Addr} {sl25 : Array (Option Value)} {oc25 kV25 dc25 pm25 ct25 : Value}
    {f26 : Addr} {od26 an26 : Option Addr} {sl26 : Array (Option Value)} {oc26 kV26 dc26 pm26 cd26 ct26 : Value}
    {f27 : Addr} {od27 an27 : Option Addr} {sl27 : Array (Option Value)} {oc27 kV27 dc27 pm27 cd27 ct27 : Value}
    {f28 : Addr} {od28 an28 : Option Addr} {sl28 : Array (Option Value)} {oc28 kV28 dc28 pm28 cd28 ct28 : Value}
    {f29 : Addr} {od29 an29 : Option Addr} {sl29 : Array (Option Value)} {oc29 kV29 dc29 pm29 cd29 ct29 : Value}
    {f30 : Addr} {od30 an30 : Option Addr} {sl30 : Array (Option Value)} {oc30 kV30 dc30 pm30 cd30 ct30 : Value}
    {f31 : Addr} {od31 an31 : Option Addr} {sl31 : Array (Option Value)} {oc31 kV31 dc31 pm31 cd31 ct31 : Value}
    {f32 : Addr} {od32 an32 : Option Addr} {sl32 : Array (Option Value)} {oc32 kV32 dc32 pm32 cd32 ct32 : Value}
    {f33 : Addr} {od33 an33 : Option Addr} {sl33 : Array (Option Value)} {oc33 kV33 dc33 pm33 cd33 ct33 : Value}
    {f34 : Addr} {od34 an34 : Option Addr} {sl34 : Array (Option Value)} {oc34 kV34 dc34 pm34 cd34 ct34 : Value}
    {yt_DIGITS : Tok}
    {yt_JOINER : Tok}
    {yt_LETTERS : Tok}
    {yt_MOST_LETTERS : Tok}
    {yt_NOTHING : Tok}
    {ya_RESERVED : Addr} {yi_RESERVED : Array Value} {yn_RESERVED : Nat} {yw_RESERVED : Array (Option Value)}
    {fI_InvalidLine cda_InvalidLine cc_InvalidLine : Addr} {ioc_InvalidLine idc_InvalidLine ipm_InvalidLine ict_InvalidLine icl_InvalidLine iccl_InvalidLine : Value} {iod_InvalidLine ian_InvalidLine icld_InvalidLine icdd_InvalidLine : Option Addr} {isl_InvalidLine icsl_InvalidLine iccs_InvalidLine : Array (Option Value)} {ivs_InvalidLine : Array Value} {ifile_InvalidLine : Str} {itf_InvalidLine : Tok}
    {fI_InvalidCount cda_InvalidCount cc_InvalidCount : Addr} {ioc_InvalidCount idc_InvalidCount ipm_InvalidCount ict_InvalidCount icl_InvalidCount iccl_InvalidCount : Value} {iod_InvalidCount ian_InvalidCount icld_InvalidCount icdd_InvalidCount : Option Addr} {isl_InvalidCount icsl_InvalidCount iccs_InvalidCount : Array (Option Value)} {ivs_InvalidCount : Array Value} {ifile_InvalidCount : Str} {itf_InvalidCount : Tok}
    {fI_InvalidSizes cda_InvalidSizes cc_InvalidSizes : Addr} {ioc_InvalidSizes idc_InvalidSizes ipm_InvalidSizes ict_InvalidSizes icl_InvalidSizes iccl_InvalidSizes : Value} {iod_InvalidSizes ian_InvalidSizes icld_InvalidSizes icdd_InvalidSizes : Option Addr} {isl_InvalidSizes icsl_InvalidSizes iccs_InvalidSizes : Array (Option Value)} {ivs_InvalidSizes : Array Value} {ifile_InvalidSizes : Str} {itf_InvalidSizes : Tok}
    {fI_InvalidText cda_InvalidText cc_InvalidText : Addr} {ioc_InvalidText idc_InvalidText ipm_InvalidText ict_InvalidText icl_InvalidText iccl_InvalidText : Value} {iod_InvalidText ian_InvalidText icld_InvalidText icdd_InvalidText : Option Addr} {isl_InvalidText icsl_InvalidText iccs_InvalidText : Array (Option Value)} {ivs_InvalidText : Array Value} {ifile_InvalidText : Str} {itf_InvalidText : Tok}
    (aC_InvalidLine : PySem.W.nsIn K mainGlobals "InvalidLine" = some (some (.ref C_InvalidLine)))
    (aC_InvalidCount : PySem.W.nsIn K mainGlobals "InvalidCount" = some (some (.ref C_InvalidCount)))
    (aC_InvalidSizes : PySem.W.nsIn K mainGlobals "InvalidSizes" = some (some (.ref C_InvalidSizes)))
    (aC_InvalidText : PySem.W.nsIn K mainGlobals "InvalidText" = some (some (.ref C_InvalidText)))
    (a0 : PySem.W.nsIn K mainGlobals "_law_draw" = some (some (.ref f0)))
    (l0 : K.lookup f0 = some ⟨oc0, od0, .func (PySem.W.fnOf "_law_draw" "_law_draw" (defArgs s__law_draw) (defBody s__law_draw) (defScope s__law_draw) .none kV0 dc0 pm0 an0 cd0 ct0), sl0⟩)
    (c0d : PySem.W.codeIn K cd0 "_law_draw" = true)
    (k0 : PySem.W.keepIn K (.ref f0) = true)
    (a1 : PySem.W.nsIn K mainGlobals "is_name" = some (some (.ref f1)))
    (l1 : K.lookup f1 = some ⟨oc1, od1, .func (PySem.W.fnOf "is_name" "is_name" (defArgs s_is_name) (defBody s_is_name) (defScope s_is_name) .none kV1 dc1 pm1 an1 cd1 ct1), sl1⟩)
    (c1d : PySem.W.codeIn K cd1 "is_name" = true)
    (k1 : PySem.W.keepIn K (.ref f1) = true)
    (a2 : PySem.W.nsIn K mainGlobals "_law_name" = some (some (.ref f2)))
    (l2 : K.lookup f2 = some ⟨oc2, od2, .func (PySem.W.fnOf "_law_name" "_law_name" (defArgs s__law_name) (defBody s__law_name) (defScope s__law_name) .none kV2 dc2 pm2 an2 cd2 ct2), sl2⟩)
    (c2d : PySem.W.codeIn K cd2 "_law_name" = true)
    (k2 : PySem.W.keepIn K (.ref f2) = true)
    (a3 : PySem.W.nsIn K mainGlobals "_law_names" = some (some (.ref f3)))
    (l3 : K.lookup f3 = some ⟨oc3, od3, .func (PySem.W.fnOf "_law_names" "_law_names" (defArgs s__law_names) (defBody s__law_names) (defScope s__law_names) .none kV3 dc3 pm3 an3 cd3 ct3), sl3⟩)
    (c3d : PySem.W.codeIn K cd3 "_law_names" = true)
    (k3 : PySem.W.keepIn K (.ref f3) = true)
    (a4 : PySem.W.nsIn K mainGlobals "_law_pick" = some (some (.ref f4)))
    (l4 : K.lookup f4 = some ⟨oc4, od4, .func (PySem.W.fnOf "_law_pick" "_law_pick" (defArgs s__law_pick) (defBody s__law_pick) (defScope s__law_pick) .none kV4 dc4 pm4 an4 cd4 ct4), sl4⟩)
    (c4d : PySem.W.codeIn K cd4 "_law_pick" = true)
    (k4 : PySem.W.keepIn K (.ref f4) = true)
    (a5 : PySem.W.nsIn K mainGlobals "_law_some" = some (some (.ref f5)))
    (l5 : K.lookup f5 = some ⟨oc5, od5, .func (PySem.W.fnOf "_law_some" "_law_some" (defArgs s__law_some) (defBody s__law_some) (defScope s__law_some) .none kV5 dc5 pm5 an5 cd5 ct5), sl5⟩)
    (c5d : PySem.W.codeIn K cd5 "_law_some" = true)
    (k5 : PySem.W.keepIn K (.ref f5) = true)
    (a6 : PySem.W.nsIn K mainGlobals "_law_line" = some (some (.ref f6)))
    (l6 : K.lookup f6 = some ⟨oc6, od6, .func (PySem.W.fnOf "_law_line" "_law_line" (defArgs s__law_line) (defBody s__law_line) (defScope s__law_line) .none kV6 dc6 pm6 an6 cd6 ct6), sl6⟩)
    (c6d : PySem.W.codeIn K cd6 "_law_line" = true)
    (k6 : PySem.W.keepIn K (.ref f6) = true)
    (a7 : PySem.W.nsIn K mainGlobals "_law_words" = some (some (.ref f7)))
    (l7 : K.lookup f7 = some ⟨oc7, od7, .func (PySem.W.fnOf "_law_words" "_law_words" (defArgs s__law_words) (defBody s__law_words) (defScope s__law_words) .none kV7 dc7 pm7 an7 cd7 ct7), sl7⟩)
    (c7d : PySem.W.codeIn K cd7 "_law_words" = true)
    (k7 : PySem.W.keepIn K (.ref f7) = true)
    (a8 : PySem.W.nsIn K mainGlobals "_law_spoilt" = some (some (.ref f8)))
    (l8 : K.lookup f8 = some ⟨oc8, od8, .func (PySem.W.fnOf "_law_spoilt" "_law_spoilt" (defArgs s__law_spoilt) (defBody s__law_spoilt) (defScope s__law_spoilt) .none kV8 dc8 pm8 an8 cd8 ct8), sl8⟩)
    (c8d : PySem.W.codeIn K cd8 "_law_spoilt" = true)
    (k8 : PySem.W.keepIn K (.ref f8) = true)
    (a9 : PySem.W.nsIn K mainGlobals "_law_error" = some (some (.ref f9)))
    (l9 : K.lookup f9 = some ⟨oc9, od9, .func (PySem.W.fnOf "_law_error" "_law_error" (defArgs s__law_error) (defBody s__law_error) (defScope s__law_error) .none kV9 dc9 pm9 an9 cd9 ct9), sl9⟩)
    (c9d : PySem.W.codeIn K cd9 "_law_error" = true)
    (k9 : PySem.W.keepIn K (.ref f9) = true)
    (a10 : PySem.W.nsIn K mainGlobals "_law_told" = some (some (.ref f10)))
    (l10 : K.lookup f10 = some ⟨oc10, od10, .func (PySem.W.fnOf "_law_told" "_law_told" (defArgs s__law_told) (defBody s__law_told) (defScope s__law_told) .none kV10 dc10 pm10 an10 cd10 ct10), sl10⟩)
    (c10d : PySem.W.codeIn K cd10 "_law_told" = true)
    (k10 : PySem.W.keepIn K (.ref f10) = true)
    (a11 : PySem.W.nsIn K mainGlobals "is_rising" = some (some (.ref f11)))
    (l11 : K.lookup f11 = some ⟨oc11, od11, .func (PySem.W.fnOf "is_rising" "is_rising" (defArgs s_is_rising) (defBody s_is_rising) (defScope s_is_rising) .none kV11 dc11 pm11 an11 cd11 ct11), sl11⟩)
    (c11d : PySem.W.codeIn K cd11 "is_rising" = true)
    (k11 : PySem.W.keepIn K (.ref f11) = true)
    (a12 : PySem.W.nsIn K mainGlobals "is_integer" = some (some (.ref f12)))
    (l12 : K.lookup f12 = some ⟨oc12, od12, .func (PySem.W.fnOf "is_integer" "is_integer" (defArgs s_is_integer) (defBody s_is_integer) (defScope s_is_integer) .none kV12 dc12 pm12 an12 cd12 ct12), sl12⟩)
    (c12d : PySem.W.codeIn K cd12 "is_integer" = true)
    (k12 : PySem.W.keepIn K (.ref f12) = true)
    (a13 : PySem.W.nsIn K mainGlobals "is_part" = some (some (.ref f13)))
    (l13 : K.lookup f13 = some ⟨oc13, od13, .func (PySem.W.fnOf "is_part" "is_part" (defArgs s_is_part) (defBody s_is_part) (defScope s_is_part) .none kV13 dc13 pm13 an13 cd13 ct13), sl13⟩)
    (c13d : PySem.W.codeIn K cd13 "is_part" = true)
    (k13 : PySem.W.keepIn K (.ref f13) = true)
    (a14 : PySem.W.nsIn K mainGlobals "is_line" = some (some (.ref f14)))
    (l14 : K.lookup f14 = some ⟨oc14, od14, .func (PySem.W.fnOf "is_line" "is_line" (defArgs s_is_line) (defBody s_is_line) (defScope s_is_line) .none kV14 dc14 pm14 an14 cd14 ct14), sl14⟩)
    (c14d : PySem.W.codeIn K cd14 "is_line" = true)
    (k14 : PySem.W.keepIn K (.ref f14) = true)
    (a15 : PySem.W.nsIn K mainGlobals "want_lines" = some (some (.ref f15)))
    (l15 : K.lookup f15 = some ⟨oc15, od15, .func (PySem.W.fnOf "want_lines" "want_lines" (defArgs s_want_lines) (defBody s_want_lines) (defScope s_want_lines) .none kV15 dc15 pm15 an15 cd15 ct15), sl15⟩)
    (c15d : PySem.W.codeIn K cd15 "want_lines" = true)
    (k15 : PySem.W.keepIn K (.ref f15) = true)
    (a16 : PySem.W.nsIn K mainGlobals "line_of" = some (some (.ref f16)))
    (l16 : K.lookup f16 = some ⟨oc16, od16, .func (PySem.W.fnOf "line_of" "line_of" (defArgs s_line_of) (defBody s_line_of) (defScope s_line_of) .none kV16 dc16 pm16 an16 cd16 ct16), sl16⟩)
    (c16d : PySem.W.codeIn K cd16 "line_of" = true)
    (k16 : PySem.W.keepIn K (.ref f16) = true)
    (a17 : PySem.W.nsIn K mainGlobals "added" = some (some (.ref f17)))
    (l17 : K.lookup f17 = some ⟨oc17, od17, .func (PySem.W.fnOf "added" "added" (defArgs s_added) (defBody s_added) (defScope s_added) .none kV17 dc17 pm17 an17 cd17 ct17), sl17⟩)
    (c17d : PySem.W.codeIn K cd17 "added" = true)
    (k17 : PySem.W.keepIn K (.ref f17) = true)
    (a18 : PySem.W.nsIn K mainGlobals "line_sum" = some (some (.ref f18)))
    (l18 : K.lookup f18 = some ⟨oc18, od18, .func (PySem.W.fnOf "line_sum" "line_sum" (defArgs s_line_sum) (defBody s_line_sum) (defScope s_line_sum) .none kV18 dc18 pm18 an18 cd18 ct18), sl18⟩)
    (c18d : PySem.W.codeIn K cd18 "line_sum" = true)
    (k18 : PySem.W.keepIn K (.ref f18) = true)
    (a19 : PySem.W.nsIn K mainGlobals "line_text" = some (some (.ref f19)))
    (l19 : K.lookup f19 = some ⟨oc19, od19, .func (PySem.W.fnOf "line_text" "line_text" (defArgs s_line_text) (defBody s_line_text) (defScope s_line_text) .none kV19 dc19 pm19 an19 cd19 ct19), sl19⟩)
    (c19d : PySem.W.codeIn K cd19 "line_text" = true)
    (k19 : PySem.W.keepIn K (.ref f19) = true)
    (a20 : PySem.W.nsIn K mainGlobals "is_within" = some (some (.ref f20)))
    (l20 : K.lookup f20 = some ⟨oc20, od20, .func (PySem.W.fnOf "is_within" "is_within" (defArgs s_is_within) (defBody s_is_within) (defScope s_is_within) .none kV20 dc20 pm20 an20 cd20 ct20), sl20⟩)
    (c20d : PySem.W.codeIn K cd20 "is_within" = true)
    (k20 : PySem.W.keepIn K (.ref f20) = true)
    (a21 : PySem.W.nsIn K mainGlobals "repeated" = some (some (.ref f21)))
    (l21 : K.lookup f21 = some ⟨oc21, od21, .func (PySem.W.fnOf "repeated" "repeated" (defArgs s_repeated) (defBody s_repeated) (defScope s_repeated) .none kV21 dc21 pm21 an21 cd21 ct21), sl21⟩)
    (c21d : PySem.W.codeIn K cd21 "repeated" = true)
    (k21 : PySem.W.keepIn K (.ref f21) = true)
    (a22 : PySem.W.nsIn K mainGlobals "line_times" = some (some (.ref f22)))
    (l22 : K.lookup f22 = some ⟨oc22, od22, .func (PySem.W.fnOf "line_times" "line_times" (defArgs s_line_times) (defBody s_line_times) (defScope s_line_times) .none kV22 dc22 pm22 an22 cd22 ct22), sl22⟩)
    (c22d : PySem.W.codeIn K cd22 "line_times" = true)
    (k22 : PySem.W.keepIn K (.ref f22) = true)
    (a23 : PySem.W.nsIn K mainGlobals "line_size" = some (some (.ref f23)))
    (l23 : K.lookup f23 = some ⟨oc23, od23, .func (PySem.W.fnOf "line_size" "line_size" (defArgs s_line_size) (defBody s_line_size) (defScope s_line_size) .none kV23 dc23 pm23 an23 cd23 ct23), sl23⟩)
    (c23d : PySem.W.codeIn K cd23 "line_size" = true)
    (k23 : PySem.W.keepIn K (.ref f23) = true)
    (a24 : PySem.W.nsIn K mainGlobals "_law_lines_right" = some (some (.ref f24)))
    (l24 : K.lookup f24 = some ⟨oc24, od24, .func (PySem.W.fnOf "_law_lines_right" "_law_lines_right" (defArgs s__law_lines_right) (defBody s__law_lines_right) (defScope s__law_lines_right) .none kV24 dc24 pm24 an24 (.ref c24) ct24), sl24⟩)
    (c24d : PySem.W.codeIn K (.ref c24) "_law_lines_right" = true)
    (k24 : PySem.W.keepIn K (.ref f24) = true)
    (lc24 : K.lookup c24 = some ⟨.type "code", ddc24, .fields vsc24, slc24⟩)
    (vc24 : vsc24[11]? = some (.ref t24))
    (hd24 : PySem.W.codeHdIn K c24 t24 = true)
    (np24 : K.lookup t24 = none)
    (tp24 : t24 ∈ ts)
    (a25 : PySem.W.nsIn K mainGlobals "_law_sizes_right" = some (some (.ref f25)))
    (l25 : K.lookup f25 = some ⟨oc25, od25, .func (PySem.W.fnOf "_law_sizes_right" "_law_sizes_right" (defArgs s__law_sizes_right) (defBody s__law_sizes_right) (defScope s__law_sizes_right) .none kV25 dc25 pm25 an25 (.ref c25) ct25), sl25⟩)
    (c25d : PySem.W.codeIn K (.ref c25) "_law_sizes_right" = true)
    (k25 : PySem.W.keepIn K (.ref f25) = true)
    (lc25 : K.lookup c25 = some ⟨.type "code", ddc25, .fields vsc25, slc25⟩)
    (vc25 : vsc25[11]? = some (.ref t25))
    (hd25 : PySem.W.codeHdIn K c25 t25 = true)
    (np25 : K.lookup t25 = none)
    (tp25 : t25 ∈ ts)
    (a26 : PySem.W.nsIn K mainGlobals "count_of" = some (some (.ref f26)))
    (l26 : K.lookup f26 = some ⟨oc26, od26, .func (PySem.W.fnOf "count_of" "count_of" (defArgs s_count_of) (defBody s_count_of) (defScope s_count_of) .none kV26 dc26 pm26 an26 cd26 ct26), sl26⟩)
    (c26d : PySem.W.codeIn K cd26 "count_of" = true)
    (k26 : PySem.W.keepIn K (.ref f26) = true)
    (a27 : PySem.W.nsIn K mainGlobals "part_of" = some (some (.ref f27)))
    (l27 : K.lookup f27 = some ⟨oc27, od27, .func (PySem.W.fnOf "part_of" "part_of" (defArgs s_part_of) (defBody s_part_of) (defScope s_part_of) .none kV27 dc27 pm27 an27 cd27 ct27), sl27⟩)
    (c27d : PySem.W.codeIn K cd27 "part_of" = true)
    (k27 : PySem.W.keepIn K (.ref f27) = true)
    (a28 : PySem.W.nsIn K mainGlobals "parse_line" = some (some (.ref f28)))
    (l28 : K.lookup f28 = some ⟨oc28, od28, .func (PySem.W.fnOf "parse_line" "parse_line" (defArgs s_parse_line) (defBody s_parse_line) (defScope s_parse_line) .none kV28 dc28 pm28 an28 cd28 ct28), sl28⟩)
    (c28d : PySem.W.codeIn K cd28 "parse_line" = true)
    (k28 : PySem.W.keepIn K (.ref f28) = true)
    (a29 : PySem.W.nsIn K mainGlobals "_law_read" = some (some (.ref f29)))
    (l29 : K.lookup f29 = some ⟨oc29, od29, .func (PySem.W.fnOf "_law_read" "_law_read" (defArgs s__law_read) (defBody s__law_read) (defScope s__law_read) .none kV29 dc29 pm29 an29 cd29 ct29), sl29⟩)
    (c29d : PySem.W.codeIn K cd29 "_law_read" = true)
    (k29 : PySem.W.keepIn K (.ref f29) = true)
    (a30 : PySem.W.nsIn K mainGlobals "_law_texts_right" = some (some (.ref f30)))
    (l30 : K.lookup f30 = some ⟨oc30, od30, .func (PySem.W.fnOf "_law_texts_right" "_law_texts_right" (defArgs s__law_texts_right) (defBody s__law_texts_right) (defScope s__law_texts_right) .none kV30 dc30 pm30 an30 cd30 ct30), sl30⟩)
    (c30d : PySem.W.codeIn K cd30 "_law_texts_right" = true)
    (k30 : PySem.W.keepIn K (.ref f30) = true)
    (a31 : PySem.W.nsIn K mainGlobals "_law_names_right" = some (some (.ref f31)))
    (l31 : K.lookup f31 = some ⟨oc31, od31, .func (PySem.W.fnOf "_law_names_right" "_law_names_right" (defArgs s__law_names_right) (defBody s__law_names_right) (defScope s__law_names_right) .none kV31 dc31 pm31 an31 cd31 ct31), sl31⟩)
    (c31d : PySem.W.codeIn K cd31 "_law_names_right" = true)
    (k31 : PySem.W.keepIn K (.ref f31) = true)
    (a32 : PySem.W.nsIn K mainGlobals "_law_right" = some (some (.ref f32)))
    (l32 : K.lookup f32 = some ⟨oc32, od32, .func (PySem.W.fnOf "_law_right" "_law_right" (defArgs s__law_right) (defBody s__law_right) (defScope s__law_right) .none kV32 dc32 pm32 an32 cd32 ct32), sl32⟩)
    (c32d : PySem.W.codeIn K cd32 "_law_right" = true)
    (k32 : PySem.W.keepIn K (.ref f32) = true)
    (a33 : PySem.W.nsIn K mainGlobals "_law_pot" = some (some (.ref f33)))
    (l33 : K.lookup f33 = some ⟨oc33, od33, .func (PySem.W.fnOf "_law_pot" "_law_pot" (defArgs s__law_pot) (defBody s__law_pot) (defScope s__law_pot) .none kV33 dc33 pm33 an33 cd33 ct33), sl33⟩)
    (c33d : PySem.W.codeIn K cd33 "_law_pot" = true)
    (k33 : PySem.W.keepIn K (.ref f33) = true)
    (a34 : PySem.W.nsIn K mainGlobals "law" = some (some (.ref f34)))
    (l34 : K.lookup f34 = some ⟨oc34, od34, .func (PySem.W.fnOf "law" "law" (defArgs s_law) (defBody s_law) (defScope s_law) .none kV34 dc34 pm34 an34 cd34 ct34), sl34⟩)
    (c34d : PySem.W.codeIn K cd34 "law" = true)
    (k34 : PySem.W.keepIn K (.ref f34) = true)
    (tn_25_24 : t25 ≠ t24)
    (tn_24_25 : t24 ≠ t25)
    (y_DIGITS : PySem.W.nsIn K mainGlobals "DIGITS" = some (some (.str (Str.ofString "0123456789") yt_DIGITS)))
    (y_JOINER : PySem.W.nsIn K mainGlobals "JOINER" = some (some (.str (Str.ofString " + ") yt_JOINER)))
    (y_LETTERS : PySem.W.nsIn K mainGlobals "LETTERS" = some (some (.str (Str.ofString "abcdefghijklmnopqrstuvwxyz") yt_LETTERS)))
    (y_MOST_LETTERS : PySem.W.nsIn K mainGlobals "MOST_LETTERS" = some (some (.int 8 yt_MOST_LETTERS)))
    (y_NOTHING : PySem.W.nsIn K mainGlobals "NOTHING" = some (some (.str (Str.ofString "0") yt_NOTHING)))
    (y_RESERVED : PySem.W.nsIn K mainGlobals "RESERVED" = some (some (.ref ya_RESERVED)))
    (yl_RESERVED : K.lookup ya_RESERVED = some ⟨.type "tuple", none, .seq yi_RESERVED yn_RESERVED, yw_RESERVED⟩)
    (yz_RESERVED : yi_RESERVED.size ≤ 16777216)
    (ys_RESERVED : strVals yi_RESERVED.toList = some [Str.ofString "call", Str.ofString "do", Str.ofString "either", Str.ofString "else", Str.ofString "end", Str.ofString "endless", Str.ofString "form", Str.ofString "frame", Str.ofString "function", Str.ofString "handler", Str.ofString "house", Str.ofString "kind", Str.ofString "limit", Str.ofString "loop", Str.ofString "most", Str.ofString "now", Str.ofString "or", Str.ofString "returns", Str.ofString "room", Str.ofString "shut", Str.ofString "size", Str.ofString "stop", Str.ofString "take", Str.ofString "task", Str.ofString "times"])
    (opq : PySem.W.nsIn K cStatics "thirdparty.any" = some none)
    (spn : PySem.W.nsIn K mainGlobals "super" = some none)
    (top : (l.prog.main.scope.names.lookup ("super" : Str)).isSome = false)
    (iC_InvalidLine : PySem.W.findIn K (.ref C_InvalidLine) "__init__" = some (some (.ref fI_InvalidLine)))
    (ln_InvalidLine : K.lookup fI_InvalidLine = some ⟨ioc_InvalidLine, iod_InvalidLine, .func (PySem.W.ksFn "__init__" "InvalidLine.__init__" (defArgs i_InvalidLine) (defBody i_InvalidLine) (defScope i_InvalidLine) .none .none idc_InvalidLine ipm_InvalidLine ian_InvalidLine (.ref cda_InvalidLine) ict_InvalidLine cc_InvalidLine), isl_InvalidLine⟩)
    (cd_InvalidLine : PySem.W.codeIn K (.ref cda_InvalidLine) "InvalidLine.__init__" = true)
    (ce_InvalidLine : K.lookup cc_InvalidLine = some ⟨icl_InvalidLine, icld_InvalidLine, .cell (some (.ref C_InvalidLine)), icsl_InvalidLine⟩)
    (co_InvalidLine : K.lookup cda_InvalidLine = some ⟨iccl_InvalidLine, icdd_InvalidLine, .fields ivs_InvalidLine, iccs_InvalidLine⟩)
    (vf_InvalidLine : ivs_InvalidLine[2]? = some (.str ifile_InvalidLine itf_InvalidLine))
    (pf_InvalidLine : ((l.prog.main.file : Str) == ifile_InvalidLine) = true)
    (eB_InvalidLine : DX.exB K C_InvalidLine fI_InvalidLine "ValueError" "ValueError.__new__" "ValueError.__init__" DX.tailV = true)
    (no_InvalidLine_value : DX.noB K C_InvalidLine (Str.ofString "value") = true)
    (iC_InvalidCount : PySem.W.findIn K (.ref C_InvalidCount) "__init__" = some (some (.ref fI_InvalidCount)))
    (ln_InvalidCount : K.lookup fI_InvalidCount = some ⟨ioc_InvalidCount, iod_InvalidCount, .func (PySem.W.ksFn "__init__" "InvalidCount.__init__" (defArgs i_InvalidCount) (defBody i_InvalidCount) (defScope i_InvalidCount) .none .none idc_InvalidCount ipm_InvalidCount ian_InvalidCount (.ref cda_InvalidCount) ict_InvalidCount cc_InvalidCount), isl_InvalidCount⟩)
    (cd_InvalidCount : PySem.W.codeIn K (.ref cda_InvalidCount) "InvalidCount.__init__" = true)
    (ce_InvalidCount : K.lookup cc_InvalidCount = some ⟨icl_InvalidCount, icld_InvalidCount, .cell (some (.ref C_InvalidCount)), icsl_InvalidCount⟩)
    (co_InvalidCount : K.lookup cda_InvalidCount = some ⟨iccl_InvalidCount, icdd_InvalidCount, .fields ivs_InvalidCount, iccs_InvalidCount⟩)
    (vf_InvalidCount : ivs_InvalidCount[2]? = some (.str ifile_InvalidCount itf_InvalidCount))
    (pf_InvalidCount : ((l.prog.main.file : Str) == ifile_InvalidCount) = true)
    (eB_InvalidCount : DX.exB K C_InvalidCount fI_InvalidCount "ValueError" "ValueError.__new__" "ValueError.__init__" DX.tailV = true)
    (no_InvalidCount_value : DX.noB K C_InvalidCount (Str.ofString "value") = true)
    (iC_InvalidSizes : PySem.W.findIn K (.ref C_InvalidSizes) "__init__" = some (some (.ref fI_InvalidSizes)))
    (ln_InvalidSizes : K.lookup fI_InvalidSizes = some ⟨ioc_InvalidSizes, iod_InvalidSizes, .func (PySem.W.ksFn "__init__" "InvalidSizes.__init__" (defArgs i_InvalidSizes) (defBody i_InvalidSizes) (defScope i_InvalidSizes) .none .none idc_InvalidSizes ipm_InvalidSizes ian_InvalidSizes (.ref cda_InvalidSizes) ict_InvalidSizes cc_InvalidSizes), isl_InvalidSizes⟩)
    (cd_InvalidSizes : PySem.W.codeIn K (.ref cda_InvalidSizes) "InvalidSizes.__init__" = true)
    (ce_InvalidSizes : K.lookup cc_InvalidSizes = some ⟨icl_InvalidSizes, icld_InvalidSizes, .cell (some (.ref C_InvalidSizes)), icsl_InvalidSizes⟩)
    (co_InvalidSizes : K.lookup cda_InvalidSizes = some ⟨iccl_InvalidSizes, icdd_InvalidSizes, .fields ivs_InvalidSizes, iccs_InvalidSizes⟩)
    (vf_InvalidSizes : ivs_InvalidSizes[2]? = some (.str ifile_InvalidSizes itf_InvalidSizes))
    (pf_InvalidSizes : ((l.prog.main.file : Str) == ifile_InvalidSizes) = true)
    (eB_InvalidSizes : DX.exB K C_InvalidSizes fI_InvalidSizes "ValueError" "ValueError.__new__" "ValueError.__init__" DX.tailV = true)
    (no_InvalidSizes_name : DX.noB K C_InvalidSizes (Str.ofString "name") = true)
    (iC_InvalidText : PySem.W.findIn K (.ref C_InvalidText) "__init__" = some (some (.ref fI_InvalidText)))
    (ln_InvalidText : K.lookup fI_InvalidText = some ⟨ioc_InvalidText, iod_InvalidText, .func (PySem.W.ksFn "__init__" "InvalidText.__init__" (defArgs i_InvalidText) (defBody i_InvalidText) (defScope i_InvalidText) .none .none idc_InvalidText ipm_InvalidText ian_InvalidText (.ref cda_InvalidText) ict_InvalidText cc_InvalidText), isl_InvalidText⟩)
    (cd_InvalidText : PySem.W.codeIn K (.ref cda_InvalidText) "InvalidText.__init__" = true)
    (ce_InvalidText : K.lookup cc_InvalidText = some ⟨icl_InvalidText, icld_InvalidText, .cell (some (.ref C_InvalidText)), icsl_InvalidText⟩)
    (co_InvalidText : K.lookup cda_InvalidText = some ⟨iccl_InvalidText, icdd_InvalidText, .fields ivs_InvalidText, iccs_InvalidText⟩)
    (vf_InvalidText : ivs_InvalidText[2]? = some (.str ifile_InvalidText itf_InvalidText))
    (pf_InvalidText : ((l.prog.main.file : Str) == ifile_InvalidText) = true)
    (eB_InvalidText : DX.exB K C_InvalidText fI_InvalidText "ValueError" "ValueError.__new__" "ValueError.__init__" DX.tailV = true)
    (no_InvalidText_line : DX.noB K C_InvalidText (Str.ofString "line") = true)
    (rk_InvalidLine : PySem.W.subIn K (.ref C_InvalidLine) (.type "BaseException") = some true)
    (rt_InvalidLine : PySem.W.typeIn K (.ref C_InvalidLine) = some (.type "type"))
    (rk_InvalidCount : PySem.W.subIn K (.ref C_InvalidCount) (.type "BaseException") = some true)
    (rt_InvalidCount : PySem.W.typeIn K (.ref C_InvalidCount) = some (.type "type"))
    (rk_InvalidSizes : PySem.W.subIn K (.ref C_InvalidSizes) (.type "BaseException") = some true)
    (rt_InvalidSizes : PySem.W.typeIn K (.ref C_InvalidSizes) = some (.type "type"))
    (rk_InvalidText : PySem.W.subIn K (.ref C_InvalidText) (.type "BaseException") = some true)
    (rt_InvalidText : PySem.W.typeIn K (.ref C_InvalidText) = some (.type "type"))
    (rh_InvalidText : PySem.W.hasDictIn K C_InvalidText = true)
    (rh_InvalidLine : PySem.W.hasDictIn K C_InvalidLine = true)
    (rh_InvalidCount : PySem.W.hasDictIn K C_InvalidCount = true)
    (rh_InvalidSizes : PySem.W.hasDictIn K C_InvalidSizes = true)
    (sx_InvalidLine_InvalidLine : PySem.W.subIn K (.ref C_InvalidLine) (.ref C_InvalidLine) = some true)
    (sx_InvalidLine_InvalidCount : PySem.W.subIn K (.ref C_InvalidLine) (.ref C_InvalidCount) = some false)
    (sx_InvalidLine_InvalidSizes : PySem.W.subIn K (.ref C_InvalidLine) (.ref C_InvalidSizes) = some false)
    (sx_InvalidCount_InvalidLine : PySem.W.subIn K (.ref C_InvalidCount) (.ref C_InvalidLine) = some false)
    (sx_InvalidCount_InvalidCount : PySem.W.subIn K (.ref C_InvalidCount) (.ref C_InvalidCount) = some true)
    (sx_InvalidCount_InvalidSizes : PySem.W.subIn K (.ref C_InvalidCount) (.ref C_InvalidSizes) = some false)
    (sx_InvalidSizes_InvalidLine : PySem.W.subIn K (.ref C_InvalidSizes) (.ref C_InvalidLine) = some false)
    (sx_InvalidSizes_InvalidCount : PySem.W.subIn K (.ref C_InvalidSizes) (.ref C_InvalidCount) = some false)
    (sx_InvalidSizes_InvalidSizes : PySem.W.subIn K (.ref C_InvalidSizes) (.ref C_InvalidSizes) = some true)
    (sx_InvalidText_InvalidText : PySem.W.subIn K (.ref C_InvalidText) (.ref C_InvalidText) = some true)
    (xf_InvalidLine : xfB K C_InvalidLine = true)
    (xf_InvalidCount : xfB K C_InvalidCount = true)
    (xf_InvalidSizes : xfB K C_InvalidSizes = true)
    (xf_InvalidText : xfB K C_InvalidText = true)
    (no_InvalidLine_name : DX.noB K C_InvalidLine (Str.ofString "name") = true)
    (no_InvalidCount_name : DX.noB K C_InvalidCount (Str.ofString "name") = true)
    (no_InvalidSizes_value : DX.noB K C_InvalidSizes (Str.ofString "value") = true)
    (xc_InvalidLine : DX.ecB K C_InvalidLine = true)
    (xc_InvalidCount : DX.ecB K C_InvalidCount = true)
    (xc_InvalidSizes : DX.ecB K C_InvalidSizes = true)
    (kt_InvalidLine_InvalidLine : PySem.W.kitOne K (.ref C_InvalidLine) (.ref C_InvalidLine) = some true)
    (kt_InvalidLine_InvalidCount : PySem.W.kitOne K (.ref C_InvalidLine) (.ref C_InvalidCount) = some false)
    (kt_InvalidCount_InvalidLine : PySem.W.kitOne K (.ref C_InvalidCount) (.ref C_InvalidLine) = some false)
    (kt_InvalidCount_InvalidCount : PySem.W.kitOne K (.ref C_InvalidCount) (.ref C_InvalidCount) = some true)
    (kt_InvalidSizes_InvalidLine : PySem.W.kitOne K (.ref C_InvalidSizes) (.ref C_InvalidLine) = some false)
    (kt_InvalidSizes_InvalidCount : PySem.W.kitOne K (.ref C_InvalidSizes) (.ref C_InvalidCount) = some false)
    (is1 : PySem.W.specialIn K (.builtin "object.__class__") "__get__" = some (some (.builtin "getset_descriptor.__get__")))
    (is2 : PySem.W.takesIn K (.builtin "object.__class__") = some true)
    (z_abs : PySem.W.nsIn K mainGlobals "abs" = some none)
    (z_all : PySem.W.nsIn K mainGlobals "all" = some none)
    (z_bool : PySem.W.nsIn K mainGlobals "bool" = some none)
    (z_dict : PySem.W.nsIn K mainGlobals "dict" = some none)
    (z_divmod : PySem.W.nsIn K mainGlobals "divmod" = some none)
    (z_int : PySem.W.nsIn K mainGlobals "int" = some none)
    (z_isinstance : PySem.W.nsIn K mainGlobals "isinstance" = some none)
    (z_len : PySem.W.nsIn K mainGlobals "len" = some none)
    (z_list : PySem.W.nsIn K mainGlobals "list" = some none)
    (z_max : PySem.W.nsIn K mainGlobals "max" = some none)
    (z_min : PySem.W.nsIn K mainGlobals "min" = some none)
    (z_range : PySem.W.nsIn K mainGlobals "range" = some none)
    (z_repr : PySem.W.nsIn K mainGlobals "repr" = some none)
    (z_sorted : PySem.W.nsIn K mainGlobals "sorted" = some none)
    (z_str : PySem.W.nsIn K mainGlobals "str" = some none)
    (z_sum : PySem.W.nsIn K mainGlobals "sum" = some none)
    (z_tuple : PySem.W.nsIn K mainGlobals "tuple" = some none)
    (z_zip : PySem.W.nsIn K mainGlobals "zip" = some none) :
    LawD l w K 10 63 (Str.ofString "_law_script") mg fa h := by
  have e := hfa.symm.trans (PySem.W.mg_of X G a34)
  cases e
  have F0 := fun_mk (st := s__law_draw) l0 c0d k0
  have b0 := F0.binds (ps := [Str.ofString "_law_pot_here", Str.ofString "_law_many"]) fun _ _ _ _ _ _ us hl => match us, hl with | [_, _], _ => rfl
  have F1 := fun_mk (st := s_is_name) l1 c1d k1
  have b1 := F1.binds (ps := [Str.ofString "value"]) fun _ _ _ _ _ _ us hl => match us, hl with | [_], _ => rfl
  have F2 := fun_mk (st := s__law_name) l2 c2d k2
  have b2 := F2.binds (ps := [Str.ofString "_law_pot_here", Str.ofString "_law_taken"]) fun _ _ _ _ _ _ us hl => match us, hl with | [_, _], _ => rfl
  have F3 := fun_mk (st := s__law_names) l3 c3d k3
  have b3 := F3.binds (ps := [Str.ofString "_law_pot_here", Str.ofString "_law_many", Str.ofString "_law_taken"]) fun _ _ _ _ _ _ us hl => match us, hl with | [_, _, _], _ => rfl
  have F4 := fun_mk (st := s__law_pick) l4 c4d k4
  have b4 := F4.binds (ps := [Str.ofString "_law_pot_here", Str.ofString "_law_some_here"]) fun _ _ _ _ _ _ us hl => match us, hl with | [_, _], _ => rfl
  have F5 := fun_mk (st := s__law_some) l5 c5d k5
  have b5 := F5.binds (ps := [Str.ofString "_law_pot_here", Str.ofString "_law_given", Str.ofString "_law_least"]) fun _ _ _ _ _ _ us hl => match us, hl with | [_, _, _], _ => rfl
  have F6 := fun_mk (st := s__law_line) l6 c6d k6
  have b6 := F6.binds (ps := [Str.ofString "_law_pot_here", Str.ofString "_law_frames"]) fun _ _ _ _ _ _ us hl => match us, hl with | [_, _], _ => rfl
  have F7 := fun_mk (st := s__law_words) l7 c7d k7
  have b7 := F7.binds (ps := []) fun _ _ _ _ _ _ us hl => match us, hl with | [], _ => rfl
  have F8 := fun_mk (st := s__law_spoilt) l8 c8d k8
  have b8 := F8.binds (ps := [Str.ofString "_law_pot_here", Str.ofString "_law_one"]) fun _ _ _ _ _ _ us hl => match us, hl with | [_, _], _ => rfl
  have F9 := fun_mk (st := s__law_error) l9 c9d k9
  have b9 := F9.binds (ps := [Str.ofString "_law_e"]) fun _ _ _ _ _ _ us hl => match us, hl with | [_], _ => rfl
  have F10 := fun_mk (st := s__law_told) l10 c10d k10
  have b10 := F10.binds (ps := [Str.ofString "_law_deed"]) fun _ _ _ _ _ _ us hl => match us, hl with | [_], _ => rfl
  have F11 := fun_mk (st := s_is_rising) l11 c11d k11
  have b11 := F11.binds (ps := [Str.ofString "names"]) fun _ _ _ _ _ _ us hl => match us, hl with | [_], _ => rfl
  have F12 := fun_mk (st := s_is_integer) l12 c12d k12
  have b12 := F12.binds (ps := [Str.ofString "value", Str.ofString "least"]) fun _ _ _ _ _ _ us hl => match us, hl with | [_, _], _ => rfl
  have F13 := fun_mk (st := s_is_part) l13 c13d k13
  have b13 := F13.binds (ps := [Str.ofString "value"]) fun _ _ _ _ _ _ us hl => match us, hl with | [_], _ => rfl
  have F14 := fun_mk (st := s_is_line) l14 c14d k14
  have b14 := F14.binds (ps := [Str.ofString "value"]) fun _ _ _ _ _ _ us hl => match us, hl with | [_], _ => rfl
  have F15 := fun_mk (st := s_want_lines) l15 c15d k15
  have b15 := F15.binds (ps := [Str.ofString "values"]) fun _ _ _ _ _ _ us hl => match us, hl with | [_], _ => rfl
  have F16 := fun_mk (st := s_line_of) l16 c16d k16
  have b16 := F16.binds (ps := [Str.ofString "counts"]) fun _ _ _ _ _ _ us hl => match us, hl with | [_], _ => rfl
  have F17 := fun_mk (st := s_added) l17 c17d k17
  have b17 := F17.binds (ps := [Str.ofString "lines"]) fun _ _ _ _ _ _ us hl => match us, hl with | [_], _ => rfl
  have F18 := fun_mk (st := s_line_sum) l18 c18d k18
  have b18 := F18.binds (ps := [Str.ofString "lines"]) fun _ _ _ _ _ _ us hl => match us, hl with | [_], _ => rfl
  have F19 := fun_mk (st := s_line_text) l19 c19d k19
  have b19 := F19.binds (ps := [Str.ofString "line"]) fun _ _ _ _ _ _ us hl => match us, hl with | [_], _ => rfl
  have F20 := fun_mk (st := s_is_within) l20 c20d k20
  have b20 := F20.binds (ps := [Str.ofString "line", Str.ofString "other"]) fun _ _ _ _ _ _ us hl => match us, hl with | [_, _], _ => rfl
  have F21 := fun_mk (st := s_repeated) l21 c21d k21
  have b21 := F21.binds (ps := [Str.ofString "line", Str.ofString "count"]) fun _ _ _ _ _ _ us hl => match us, hl with | [_, _], _ => rfl
  have F22 := fun_mk (st := s_line_times) l22 c22d k22
  have b22 := F22.binds (ps := [Str.ofString "line", Str.ofString "count"]) fun _ _ _ _ _ _ us hl => match us, hl with | [_, _], _ => rfl
  have F23 := fun_mk (st := s_line_size) l23 c23d k23
  have b23 := F23.binds (ps := [Str.ofString "line", Str.ofString "sizes"]) fun _ _ _ _ _ _ us hl => match us, hl with | [_, _], _ => rfl
  have C24 : FunC K "_law_lines_right" "_law_lines_right" s__law_lines_right _ _ c24 := ⟨_, _, _, _, _, _, _, _, rfl, l24, c24d⟩
  have F24 := C24.fn k24
  have b24 := F24.binds (ps := [Str.ofString "_law_pot_here", Str.ofString "_law_frames"]) fun _ _ _ _ _ _ us hl => match us, hl with | [_, _], _ => rfl
  have C25 : FunC K "_law_sizes_right" "_law_sizes_right" s__law_sizes_right _ _ c25 := ⟨_, _, _, _, _, _, _, _, rfl, l25, c25d⟩
  have F25 := C25.fn k25
  have b25 := F25.binds (ps := [Str.ofString "_law_pot_here", Str.ofString "_law_frames"]) fun _ _ _ _ _ _ us hl => match us, hl with | [_, _], _ => rfl
  have F26 := fun_mk (st := s_count_of) l26 c26d k26
  have b26 := F26.binds (ps := [Str.ofString "word"]) fun _ _ _ _ _ _ us hl => match us, hl with | [_], _ => rfl
  have F27 := fun_mk (st := s_part_of) l27 c27d k27
  have b27 := F27.binds (ps := [Str.ofString "text"]) fun _ _ _ _ _ _ us hl => match us, hl with | [_], _ => rfl
  have F28 := fun_mk (st := s_parse_line) l28 c28d k28
  have b28 := F28.binds (ps := [Str.ofString "text"]) fun _ _ _ _ _ _ us hl => match us, hl with | [_], _ => rfl
  have F29 := fun_mk (st := s__law_read) l29 c29d k29
  have b29 := F29.binds (ps := [Str.ofString "_law_given"]) fun _ _ _ _ _ _ us hl => match us, hl with | [_], _ => rfl
  have F30 := fun_mk (st := s__law_texts_right) l30 c30d k30
  have b30 := F30.binds (ps := [Str.ofString "_law_pot_here", Str.ofString "_law_frames"]) fun _ _ _ _ _ _ us hl => match us, hl with | [_, _], _ => rfl
  have F31 := fun_mk (st := s__law_names_right) l31 c31d k31
  have b31 := F31.binds (ps := [Str.ofString "_law_pot_here"]) fun _ _ _ _ _ _ us hl => match us, hl with | [_], _ => rfl
  have F32 := fun_mk (st := s__law_right) l32 c32d k32
  have b32 := F32.binds (ps := [Str.ofString "_law_pot_here"]) fun _ _ _ _ _ _ us hl => match us, hl with | [_], _ => rfl
  have F33 := fun_mk (st := s__law_pot) l33 c33d k33
  have b33 := F33.binds (ps := [Str.ofString "_law_script", Str.ofString "_law_index"]) fun _ _ _ _ _ _ us hl => match us, hl with | [_, _], _ => rfl
  have F34 := fun_mk (st := s_law) l34 c34d k34
  have b34 := F34.binds (ps := [Str.ofString "_law_script"]) fun _ _ _ _ _ _ us hl => match us, hl with | [_], _ => rfl
  letI : TBL := ⟨[(t24, lamQ "_law_lines_right" s__law_lines_right), (t25, lamQ "_law_sizes_right" s__law_sizes_right)], fun x => DX.cOf [(Str.ofString "InvalidLine", C_InvalidLine), (Str.ofString "InvalidCount", C_InvalidCount), (Str.ofString "InvalidSizes", C_InvalidSizes), (Str.ofString "InvalidText", C_InvalidText)] x, fun x => DX.fOf [(Str.ofString "InvalidLine", [Str.ofString "value"]), (Str.ofString "InvalidCount", [Str.ofString "value"]), (Str.ofString "InvalidSizes", [Str.ofString "name"]), (Str.ofString "InvalidText", [Str.ofString "line"])] x, fun x => none, w⟩
  have hC_InvalidLine : TBL.C (Str.ofString "InvalidLine") = C_InvalidLine := by kernel_rfl
  have hF_InvalidLine : TBL.F (Str.ofString "InvalidLine") = [Str.ofString "value"] := by kernel_rfl
  have hC_InvalidCount : TBL.C (Str.ofString "InvalidCount") = C_InvalidCount := by kernel_rfl
  have hF_InvalidCount : TBL.F (Str.ofString "InvalidCount") = [Str.ofString "value"] := by kernel_rfl
  have hC_InvalidSizes : TBL.C (Str.ofString "InvalidSizes") = C_InvalidSizes := by kernel_rfl
  have hF_InvalidSizes : TBL.F (Str.ofString "InvalidSizes") = [Str.ofString "name"] := by kernel_rfl
  have hC_InvalidText : TBL.C (Str.ofString "InvalidText") = C_InvalidText := by kernel_rfl
  have hF_InvalidText : TBL.F (Str.ofString "InvalidText") = [Str.ofString "line"] := by kernel_rfl
  have er_InvalidLine : DX.Ex1 l.prog K mg (Str.ofString "InvalidLine") (TBL.C (Str.ofString "InvalidLine")) (Str.ofString "value") := by rw [hC_InvalidLine]; exact ⟨PySem.W.mg_of X G aC_InvalidLine, DX.noB_ok no_InvalidLine_value, by decide, by decide, _, _, _, _, _, _, _, _, _, _, _, DX.exC_of DX.baseV eB_InvalidLine opq (PySem.W.mg_none_of X G spn) top ⟨_, _, _, _, _, _, _, ln_InvalidLine, cd_InvalidLine⟩ ⟨_, _, _, ce_InvalidLine⟩ ⟨_, _, _, _, _, _, co_InvalidLine, vf_InvalidLine, pf_InvalidLine⟩ rfl rfl rfl rfl rfl rfl (by decide +kernel) ⟨_, _, rfl, rfl⟩, rfl, _, _, _, _, _, _, _, _, _, _, _, _, _, _, rfl, rfl, rfl, rfl, rfl, fun _ _ _ _ _ _ => rfl⟩
  have er_InvalidCount : DX.Ex1 l.prog K mg (Str.ofString "InvalidCount") (TBL.C (Str.ofString "InvalidCount")) (Str.ofString "value") := by rw [hC_InvalidCount]; exact ⟨PySem.W.mg_of X G aC_InvalidCount, DX.noB_ok no_InvalidCount_value, by decide, by decide, _, _, _, _, _, _, _, _, _, _, _, DX.exC_of DX.baseV eB_InvalidCount opq (PySem.W.mg_none_of X G spn) top ⟨_, _, _, _, _, _, _, ln_InvalidCount, cd_InvalidCount⟩ ⟨_, _, _, ce_InvalidCount⟩ ⟨_, _, _, _, _, _, co_InvalidCount, vf_InvalidCount, pf_InvalidCount⟩ rfl rfl rfl rfl rfl rfl (by decide +kernel) ⟨_, _, rfl, rfl⟩, rfl, _, _, _, _, _, _, _, _, _, _, _, _, _, _, rfl, rfl, rfl, rfl, rfl, fun _ _ _ _ _ _ => rfl⟩
  have er_InvalidSizes : DX.Ex1 l.prog K mg (Str.ofString "InvalidSizes") (TBL.C (Str.ofString "InvalidSizes")) (Str.ofString "name") := by rw [hC_InvalidSizes]; exact ⟨PySem.W.mg_of X G aC_InvalidSizes, DX.noB_ok no_InvalidSizes_name, by decide, by decide, _, _, _, _, _, _, _, _, _, _, _, DX.exC_of DX.baseV eB_InvalidSizes opq (PySem.W.mg_none_of X G spn) top ⟨_, _, _, _, _, _, _, ln_InvalidSizes, cd_InvalidSizes⟩ ⟨_, _, _, ce_InvalidSizes⟩ ⟨_, _, _, _, _, _, co_InvalidSizes, vf_InvalidSizes, pf_InvalidSizes⟩ rfl rfl rfl rfl rfl rfl (by decide +kernel) ⟨_, _, rfl, rfl⟩, rfl, _, _, _, _, _, _, _, _, _, _, _, _, _, _, rfl, rfl, rfl, rfl, rfl, fun _ _ _ _ _ _ => rfl⟩
  have er_InvalidText : DX.Ex1 l.prog K mg (Str.ofString "InvalidText") (TBL.C (Str.ofString "InvalidText")) (Str.ofString "line") := by rw [hC_InvalidText]; exact ⟨PySem.W.mg_of X G aC_InvalidText, DX.noB_ok no_InvalidText_line, by decide, by decide, _, _, _, _, _, _, _, _, _, _, _, DX.exC_of DX.baseV eB_InvalidText opq (PySem.W.mg_none_of X G spn) top ⟨_, _, _, _, _, _, _, ln_InvalidText, cd_InvalidText⟩ ⟨_, _, _, ce_InvalidText⟩ ⟨_, _, _, _, _, _, co_InvalidText, vf_InvalidText, pf_InvalidText⟩ rfl rfl rfl rfl rfl rfl (by decide +kernel) ⟨_, _, rfl, rfl⟩, rfl, _, _, _, _, _, _, _, _, _, _, _, _, _, _, rfl, rfl, rfl, rfl, rfl, fun _ _ _ _ _ _ => rfl⟩
  let T : TX K mg := { a__law_draw := f0, fd__law_draw := _, F__law_draw := F0, b__law_draw := b0, g__law_draw := PySem.W.mg_of X G a0, a_is_name := f1, fd_is_name := _, F_is_name := F1, b_is_name := b1, g_is_name := PySem.W.mg_of X G a1, a__law_name := f2, fd__law_name := _, F__law_name := F2, b__law_name := b2, g__law_name := PySem.W.mg_of X G a2, a__law_names := f3, fd__law_names := _, F__law_names := F3, b__law_names := b3, g__law_names := PySem.W.mg_of X G a3, a__law_pick := f4, fd__law_pick := _, F__law_pick := F4, b__law_pick := b4, g__law_pick := PySem.W.mg_of X G a4, a__law_some := f5, fd__law_some := _, F__law_some := F5, b__law_some := b5, g__law_some := PySem.W.mg_of X G a5, a__law_line := f6, fd__law_line := _, F__law_line := F6, b__law_line := b6, g__law_line := PySem.W.mg_of X G a6, a__law_words := f7, fd__law_words := _, F__law_words := F7, b__law_words := b7, g__law_words := PySem.W.mg_of X G a7, a__law_spoilt := f8, fd__law_spoilt := _, F__law_spoilt := F8, b__law_spoilt := b8, g__law_spoilt := PySem.W.mg_of X G a8, a__law_error := f9, fd__law_error := _, F__law_error := F9, b__law_error := b9, g__law_error := PySem.W.mg_of X G a9, a__law_told := f10, fd__law_told := _, F__law_told := F10, b__law_told := b10, g__law_told := PySem.W.mg_of X G a10, a_is_rising := f11, fd_is_rising := _, F_is_rising := F11, b_is_rising := b11, g_is_rising := PySem.W.mg_of X G a11, a_is_integer := f12, fd_is_integer := _, F_is_integer := F12, b_is_integer := b12, g_is_integer := PySem.W.mg_of X G a12, a_is_part := f13, fd_is_part := _, F_is_part := F13, b_is_part := b13, g_is_part := PySem.W.mg_of X G a13, a_is_line := f14, fd_is_line := _, F_is_line := F14, b_is_line := b14, g_is_line := PySem.W.mg_of X G a14, a_want_lines := f15, fd_want_lines := _, F_want_lines := F15, b_want_lines := b15, g_want_lines := PySem.W.mg_of X G a15, a_line_of := f16, fd_line_of := _, F_line_of := F16, b_line_of := b16, g_line_of := PySem.W.mg_of X G a16, a_added := f17, fd_added := _, F_added := F17, b_added := b17, g_added := PySem.W.mg_of X G a17, a_line_sum := f18, fd_line_sum := _, F_line_sum := F18, b_line_sum := b18, g_line_sum := PySem.W.mg_of X G a18, a_line_text := f19, fd_line_text := _, F_line_text := F19, b_line_text := b19, g_line_text := PySem.W.mg_of X G a19, a_is_within := f20, fd_is_within := _, F_is_within := F20, b_is_within := b20, g_is_within := PySem.W.mg_of X G a20, a_repeated := f21, fd_repeated := _, F_repeated := F21, b_repeated := b21, g_repeated := PySem.W.mg_of X G a21, a_line_times := f22, fd_line_times := _, F_line_times := F22, b_line_times := b22, g_line_times := PySem.W.mg_of X G a22, a_line_size := f23, fd_line_size := _, F_line_size := F23, b_line_size := b23, g_line_size := PySem.W.mg_of X G a23, a__law_lines_right := f24, fd__law_lines_right := _, F__law_lines_right := F24, b__law_lines_right := b24, g__law_lines_right := PySem.W.mg_of X G a24, c__law_lines_right := c24, t__law_lines_right := t24, C__law_lines_right := C24, a__law_sizes_right := f25, fd__law_sizes_right := _, F__law_sizes_right := F25, b__law_sizes_right := b25, g__law_sizes_right := PySem.W.mg_of X G a25, c__law_sizes_right := c25, t__law_sizes_right := t25, C__law_sizes_right := C25, a_count_of := f26, fd_count_of := _, F_count_of := F26, b_count_of := b26, g_count_of := PySem.W.mg_of X G a26, a_part_of := f27, fd_part_of := _, F_part_of := F27, b_part_of := b27, g_part_of := PySem.W.mg_of X G a27, a_parse_line := f28, fd_parse_line := _, F_parse_line := F28, b_parse_line := b28, g_parse_line := PySem.W.mg_of X G a28, a__law_read := f29, fd__law_read := _, F__law_read := F29, b__law_read := b29, g__law_read := PySem.W.mg_of X G a29, a__law_texts_right := f30, fd__law_texts_right := _, F__law_texts_right := F30, b__law_texts_right := b30, g__law_texts_right := PySem.W.mg_of X G a30, a__law_names_right := f31, fd__law_names_right := _, F__law_names_right := F31, b__law_names_right := b31, g__law_names_right := PySem.W.mg_of X G a31, a__law_right := f32, fd__law_right := _, F__law_right := F32, b__law_right := b32, g__law_right := PySem.W.mg_of X G a32, a__law_pot := f33, fd__law_pot := _, F__law_pot := F33, b__law_pot := b33, g__law_pot := PySem.W.mg_of X G a33, a_law := fa, fd_law := _, F_law := F34, b_law := b34, g_law := PySem.W.mg_of X G a34, k_DIGITS := cst_str (PySem.W.mg_of X G y_DIGITS), k_JOINER := cst_str (PySem.W.mg_of X G y_JOINER), k_LETTERS := cst_str (PySem.W.mg_of X G y_LETTERS), k_MOST_LETTERS := cst_int (PySem.W.mg_of X G y_MOST_LETTERS), k_NOTHING := cst_str (PySem.W.mg_of X G y_NOTHING), k_RESERVED := cst_tup (PySem.W.mg_of X G y_RESERVED) yl_RESERVED rfl rfl rfl yz_RESERVED ys_RESERVED, kb0 := fun s ws hl => match ws, hl with | [_], _ => .of_eq rfl, kb1 := fun s ws hl => match ws, hl with | [_], _ => .of_eq rfl, m_abs := PySem.W.mg_none_of X G z_abs, m_all := PySem.W.mg_none_of X G z_all, m_bool := PySem.W.mg_none_of X G z_bool, m_dict := PySem.W.mg_none_of X G z_dict, m_divmod := PySem.W.mg_none_of X G z_divmod, m_int := PySem.W.mg_none_of X G z_int, m_isinstance := PySem.W.mg_none_of X G z_isinstance, m_len := PySem.W.mg_none_of X G z_len, m_list := PySem.W.mg_none_of X G z_list, m_max := PySem.W.mg_none_of X G z_max, m_min := PySem.W.mg_none_of X G z_min, m_range := PySem.W.mg_none_of X G z_range, m_repr := PySem.W.mg_none_of X G z_repr, m_sorted := PySem.W.mg_none_of X G z_sorted, m_str := PySem.W.mg_none_of X G z_str, m_sum := PySem.W.mg_none_of X G z_sum, m_tuple := PySem.W.mg_none_of X G z_tuple, m_zip := PySem.W.mg_none_of X G z_zip }
  refine law_at (cs := [(c24, t24), (c25, t25)]) (fn := f_law) ?_ ?_ ?_ (fun s v => .of_eq rfl) ?_ (noList_of noL) (fun base KX Gb TB hsys => w_law T ?_) hlaw
  · intro p hp
    simp only [List.mem_cons, List.not_mem_nil, or_false] at hp
    rcases hp with rfl | rfl
    · exact htab _ tp24
    · exact htab _ tp25
  · intro p hp
    simp only [List.mem_cons, List.not_mem_nil, or_false] at hp
    rcases hp with rfl | rfl
    · exact np24
    · exact np25
  · intro p hp
    simp only [List.mem_cons, List.not_mem_nil, or_false] at hp
    rcases hp with rfl | rfl
    · exact PySem.W.codeHd_of_K X hd24
    · exact PySem.W.codeHd_of_K X hd25
  · intro q hq
    have hq : q ∈ [(t24, lamQ "_law_lines_right" s__law_lines_right), (t25, lamQ "_law_sizes_right" s__law_sizes_right)] := hq
    simp only [List.mem_cons, List.not_mem_nil, or_false] at hq
    rcases hq with rfl | rfl
    · exact ⟨c24, List.mem_cons_self⟩
    · exact ⟨c25, (List.mem_cons_of_mem _ List.mem_cons_self)⟩
  · refine {
      sys := hsys,
      wd := rfl,
      tb__law_lines_right := TB (c24, t24) List.mem_cons_self,
      mt__law_lines_right := by show (t24, lamQ "_law_lines_right" s__law_lines_right) ∈ [(t24, lamQ "_law_lines_right" s__law_lines_right), (t25, lamQ "_law_sizes_right" s__law_sizes_right)]; exact List.mem_cons_self,
      u__law_lines_right := ?_,
      tb__law_sizes_right := TB (c25, t25) (List.mem_cons_of_mem _ List.mem_cons_self),
      mt__law_sizes_right := by show (t25, lamQ "_law_sizes_right" s__law_sizes_right) ∈ [(t24, lamQ "_law_lines_right" s__law_lines_right), (t25, lamQ "_law_sizes_right" s__law_sizes_right)]; exact (List.mem_cons_of_mem _ List.mem_cons_self),
      u__law_sizes_right := ?_,
      e_InvalidLine := er_InvalidLine, k_InvalidLine := by rw [hC_InvalidLine]; exact (DX.exB_ok eB_InvalidLine).kC, r_InvalidLine := by rw [hC_InvalidLine]; exact rk_InvalidLine, t_InvalidLine := by rw [hC_InvalidLine]; exact rt_InvalidLine,
      e_InvalidCount := er_InvalidCount, k_InvalidCount := by rw [hC_InvalidCount]; exact (DX.exB_ok eB_InvalidCount).kC, r_InvalidCount := by rw [hC_InvalidCount]; exact rk_InvalidCount, t_InvalidCount := by rw [hC_InvalidCount]; exact rt_InvalidCount,
      e_InvalidSizes := er_InvalidSizes, k_InvalidSizes := by rw [hC_InvalidSizes]; exact (DX.exB_ok eB_InvalidSizes).kC, r_InvalidSizes := by rw [hC_InvalidSizes]; exact rk_InvalidSizes, t_InvalidSizes := by rw [hC_InvalidSizes]; exact rt_InvalidSizes,
      e_InvalidText := er_InvalidText, k_InvalidText := by rw [hC_InvalidText]; exact (DX.exB_ok eB_InvalidText).kC, r_InvalidText := by rw [hC_InvalidText]; exact rk_InvalidText, t_InvalidText := by rw [hC_InvalidText]; exact rt_InvalidText,
      g_InvalidLine := by rw [hC_InvalidLine]; exact PySem.W.mg_of X G aC_InvalidLine,
      g_InvalidCount := by rw [hC_InvalidCount]; exact PySem.W.mg_of X G aC_InvalidCount,
      g_InvalidSizes := by rw [hC_InvalidSizes]; exact PySem.W.mg_of X G aC_InvalidSizes,
      g_InvalidText := by rw [hC_InvalidText]; exact PySem.W.mg_of X G aC_InvalidText,
      xm_InvalidText_InvalidText := by rw [hC_InvalidText]; exact PySem.W.exm_ref rk_InvalidText rh_InvalidText rt_InvalidText sx_InvalidText_InvalidText,
      xm3_InvalidLine_InvalidCount_InvalidSizes_InvalidLine := by rw [hC_InvalidLine, hC_InvalidCount, hC_InvalidSizes]; exact exm3_of (PySem.W.exm_ref rk_InvalidLine rh_InvalidLine rt_InvalidLine sx_InvalidLine_InvalidLine) (PySem.W.exm_ref rk_InvalidCount rh_InvalidCount rt_InvalidCount sx_InvalidLine_InvalidCount) (PySem.W.exm_ref rk_InvalidSizes rh_InvalidSizes rt_InvalidSizes sx_InvalidLine_InvalidSizes) rfl,
      xm3_InvalidLine_InvalidCount_InvalidSizes_InvalidCount := by rw [hC_InvalidLine, hC_InvalidCount, hC_InvalidSizes]; exact exm3_of (PySem.W.exm_ref rk_InvalidLine rh_InvalidLine rt_InvalidLine sx_InvalidCount_InvalidLine) (PySem.W.exm_ref rk_InvalidCount rh_InvalidCount rt_InvalidCount sx_InvalidCount_InvalidCount) (PySem.W.exm_ref rk_InvalidSizes rh_InvalidSizes rt_InvalidSizes sx_InvalidCount_InvalidSizes) rfl,
      xm3_InvalidLine_InvalidCount_InvalidSizes_InvalidSizes := by rw [hC_InvalidLine, hC_InvalidCount, hC_InvalidSizes]; exact exm3_of (PySem.W.exm_ref rk_InvalidLine rh_InvalidLine rt_InvalidLine sx_InvalidSizes_InvalidLine) (PySem.W.exm_ref rk_InvalidCount rh_InvalidCount rt_InvalidCount sx_InvalidSizes_InvalidCount) (PySem.W.exm_ref rk_InvalidSizes rh_InvalidSizes rt_InvalidSizes sx_InvalidSizes_InvalidSizes) rfl,
      xf_InvalidLine := by rw [hC_InvalidLine]; exact xfB_ok xf_InvalidLine,
      xf_InvalidCount := by rw [hC_InvalidCount]; exact xfB_ok xf_InvalidCount,
      xf_InvalidSizes := by rw [hC_InvalidSizes]; exact xfB_ok xf_InvalidSizes,
      xf_InvalidText := by rw [hC_InvalidText]; exact xfB_ok xf_InvalidText,
      nf_InvalidLine_value := by rw [hC_InvalidLine]; exact DX.noB_ok no_InvalidLine_value,
      nf_InvalidLine_name := by rw [hC_InvalidLine]; exact DX.noB_ok no_InvalidLine_name,
      nf_InvalidCount_value := by rw [hC_InvalidCount]; exact DX.noB_ok no_InvalidCount_value,
      nf_InvalidCount_name := by rw [hC_InvalidCount]; exact DX.noB_ok no_InvalidCount_name,
      nf_InvalidSizes_value := by rw [hC_InvalidSizes]; exact DX.noB_ok no_InvalidSizes_value,
      nf_InvalidSizes_name := by rw [hC_InvalidSizes]; exact DX.noB_ok no_InvalidSizes_name,
      nf_InvalidText_line := by rw [hC_InvalidText]; exact DX.noB_ok no_InvalidText_line,
      xi_InvalidLine := by rw [hC_InvalidLine]; exact DX.ecB_ok xc_InvalidLine is1 is2,
      xi_InvalidCount := by rw [hC_InvalidCount]; exact DX.ecB_ok xc_InvalidCount is1 is2,
      xi_InvalidSizes := by rw [hC_InvalidSizes]; exact DX.ecB_ok xc_InvalidSizes is1 is2,
      xk_InvalidLine_InvalidLine := by rw [hC_InvalidLine]; exact kt_InvalidLine_InvalidLine,
      xk_InvalidLine_InvalidCount := by rw [hC_InvalidLine, hC_InvalidCount]; exact kt_InvalidLine_InvalidCount,
      xk_InvalidCount_InvalidLine := by rw [hC_InvalidCount, hC_InvalidLine]; exact kt_InvalidCount_InvalidLine,
      xk_InvalidCount_InvalidCount := by rw [hC_InvalidCount]; exact kt_InvalidCount_InvalidCount,
      xk_InvalidSizes_InvalidLine := by rw [hC_InvalidSizes, hC_InvalidLine]; exact kt_InvalidSizes_InvalidLine,
      xk_InvalidSizes_InvalidCount := by rw [hC_InvalidSizes, hC_InvalidCount]; exact kt_InvalidSizes_InvalidCount }
    · intro q hq e
      have hq : q ∈ [(t24, lamQ "_law_lines_right" s__law_lines_right), (t25, lamQ "_law_sizes_right" s__law_sizes_right)] := hq
      simp only [List.mem_cons, List.not_mem_nil, or_false] at hq
      rcases hq with rfl | rfl
      · rfl
      · exact absurd e tn_25_24
    · intro q hq e
      have hq : q ∈ [(t24, lamQ "_law_lines_right" s__law_lines_right), (t25, lamQ "_law_sizes_right" s__law_sizes_right)] := hq
      simp only [List.mem_cons, List.not_mem_nil, or_false] at hq
      rcases hq with rfl | rfl
      · exact absurd e tn_24_25
      · rfl
end W12
open PySem PySem.W PyProof.Rows
set_option maxHeartbeats 0 in
theorem PySem.Challenge.cw_nestdeep_k12_lines_and_names_of_anything_holds : PySem.Challenge.rw_nestdeep_k12_lines_and_names_of_anything.Holds := by
  w_on; o_law; k_head; (case hw => w_witness2)
  k_fill
  refine DL.walk_D (l := PySem.Challenge.rw_nestdeep_k12_lines_and_names_of_anything) (n := 63) (k := 10) (x := "_law_script") rfl (by decide) rfl (by first | rfl | decide +kernel) ⟨⟨rfl, by decide, by decide⟩, rfl⟩ (fun w h Y => PySem.W.km_in_of Y) ?F
  case F =>
    intro w mg fa h Y KX G hmg
    refine' W12.all_mk KX G hmg (PySem.W.km_tabs_of Y) ?noL W12.hlaw ?aC_InvalidLine ?aC_InvalidCount ?aC_InvalidSizes ?aC_InvalidText ?a0 ?l0 ?c0d ?k0 ?a1 ?l1 ?c1d ?k1 ?a2 ?l2 ?c2d ?k2 ?a3 ?l3 ?c3d ?k3 ?a4 ?l4 ?c4d ?k4 ?a5 ?l5 ?c5d ?k5 ?a6 ?l6 ?c6d ?k6 ?a7 ?l7 ?c7d ?k7 ?a8 ?l8 ?c8d ?k8 ?a9 ?l9 ?c9d ?k9 ?a10 ?l10 ?c10d ?k10 ?a11 ?l11 ?c11d ?k11 ?a12 ?l12 ?c12d ?k12 ?a13 ?l13 ?c13d ?k13 ?a14 ?l14 ?c14d ?k14 ?a15 ?l15 ?c15d ?k15 ?a16 ?l16 ?c16d ?k16 ?a17 ?l17 ?c17d ?k17 ?a18 ?l18 ?c18d ?k18 ?a19 ?l19 ?c19d ?k19 ?a20 ?l20 ?c20d ?k20 ?a21 ?l21 ?c21d ?k21 ?a22 ?l22 ?c22d ?k22 ?a23 ?l23 ?c23d ?k23 ?a24 ?l24 ?c24d ?k24 ?lc24 ?vc24 ?hd24 ?np24 ?tp24 ?a25 ?l25 ?c25d ?k25 ?lc25 ?vc25 ?hd25 ?np25 ?tp25 ?a26 ?l26 ?c26d ?k26 ?a27 ?l27 ?c27d ?k27 ?a28 ?l28 ?c28d ?k28 ?a29 ?l29 ?c29d ?k29 ?a30 ?l30 ?c30d ?k30 ?a31 ?l31 ?c31d ?k31 ?a32 ?l32 ?c32d ?k32 ?a33 ?l33 ?c33d ?k33 ?a34 ?l34 ?c34d ?k34 ?tn_25_24 ?tn_24_25 ?y_DIGITS ?y_JOINER ?y_LETTERS ?y_MOST_LETTERS ?y_NOTHING ?y_RESERVED ?yl_RESERVED ?yz_RESERVED ?ys_RESERVED ?opq ?spn ?top ?iC_InvalidLine ?ln_InvalidLine ?cd_InvalidLine ?ce_InvalidLine ?co_InvalidLine ?vf_InvalidLine ?pf_InvalidLine ?eB_InvalidLine ?no_InvalidLine_value ?iC_InvalidCount ?ln_InvalidCount ?cd_InvalidCount ?ce_InvalidCount ?co_InvalidCount ?vf_InvalidCount ?pf_InvalidCount ?eB_InvalidCount ?no_InvalidCount_value ?iC_InvalidSizes ?ln_InvalidSizes ?cd_InvalidSizes ?ce_InvalidSizes ?co_InvalidSizes ?vf_InvalidSizes ?pf_InvalidSizes ?eB_InvalidSizes ?no_InvalidSizes_name ?iC_InvalidText ?ln_InvalidText ?cd_InvalidText ?ce_InvalidText ?co_InvalidText ?vf_InvalidText ?pf_InvalidText ?eB_InvalidText ?no_InvalidText_line ?rk_InvalidLine ?rt_InvalidLine ?rk_InvalidCount ?rt_InvalidCount ?rk_InvalidSizes ?rt_InvalidSizes ?rk_InvalidText ?rt_InvalidText ?rh_InvalidText ?rh_InvalidLine ?rh_InvalidCount ?rh_InvalidSizes ?sx_InvalidLine_InvalidLine ?sx_InvalidLine_InvalidCount ?sx_InvalidLine_InvalidSizes ?sx_InvalidCount_InvalidLine ?sx_InvalidCount_InvalidCount ?sx_InvalidCount_InvalidSizes ?sx_InvalidSizes_InvalidLine ?sx_InvalidSizes_InvalidCount ?sx_InvalidSizes_InvalidSizes ?sx_InvalidText_InvalidText ?xf_InvalidLine ?xf_InvalidCount ?xf_InvalidSizes ?xf_InvalidText ?no_InvalidLine_name ?no_InvalidCount_name ?no_InvalidSizes_value ?xc_InvalidLine ?xc_InvalidCount ?xc_InvalidSizes ?kt_InvalidLine_InvalidLine ?kt_InvalidLine_InvalidCount ?kt_InvalidCount_InvalidLine ?kt_InvalidCount_InvalidCount ?kt_InvalidSizes_InvalidLine ?kt_InvalidSizes_InvalidCount ?is1 ?is2 ?z_abs ?z_all ?z_bool ?z_dict ?z_divmod ?z_int ?z_isinstance ?z_len ?z_list ?z_max ?z_min ?z_range ?z_repr ?z_sorted ?z_str ?z_sum ?z_tuple ?z_zip
    (case aC_InvalidLine => k_is)
    (case aC_InvalidCount => k_is)
    (case aC_InvalidSizes => k_is)
    (case aC_InvalidText => k_is)
    (case a0 => k_is)
    (case l0 => k_is)
    (case c0d => k_is)
    (case k0 => k_is)
    (case a1 => k_is)
    (case l1 => k_is)
    (case c1d => k_is)
    (case k1 => k_is)
    (case a2 => k_is)
    (case l2 => k_is)
    (case c2d => k_is)
    (case k2 => k_is)
    (case a3 => k_is)
    (case l3 => k_is)
    (case c3d => k_is)
    (case k3 => k_is)
    (case a4 => k_is)
    (case l4 => k_is)
    (case c4d => k_is)
    (case k4 => k_is)
    (case a5 => k_is)
    (case l5 => k_is)
    (case c5d => k_is)
    (case k5 => k_is)
    (case a6 => k_is)
    (case l6 => k_is)
    (case c6d => k_is)
    (case k6 => k_is)
    (case a7 => k_is)
    (case l7 => k_is)
    (case c7d => k_is)
    (case k7 => k_is)
    (case a8 => k_is)
    (case l8 => k_is)
    (case c8d => k_is)
    (case k8 => k_is)
    (case a9 => k_is)
    (case l9 => k_is)
    (case c9d => k_is)
    (case k9 => k_is)
    (case a10 => k_is)
    (case l10 => k_is)
    (case c10d => k_is)
    (case k10 => k_is)
    (case a11 => k_is)
    (case l11 => k_is)
    (case c11d => k_is)
    (case k11 => k_is)
    (case a12 => k_is)
    (case l12 => k_is)
    (case c12d => k_is)
    (case k12 => k_is)
    (case a13 => k_is)
    (case l13 => k_is)
    (case c13d => k_is)
    (case k13 => k_is)
    (case a14 => k_is)
    (case l14 => k_is)
    (case c14d => k_is)
    (case k14 => k_is)
    (case a15 => k_is)
    (case l15 => k_is)
    (case c15d => k_is)
    (case k15 => k_is)
    (case a16 => k_is)
    (case l16 => k_is)
    (case c16d => k_is)
    (case k16 => k_is)
    (case a17 => k_is)
    (case l17 => k_is)
    (case c17d => k_is)
    (case k17 => k_is)
    (case a18 => k_is)
    (case l18 => k_is)
    (case c18d => k_is)
    (case k18 => k_is)
    (case a19 => k_is)
    (case l19 => k_is)
    (case c19d => k_is)
    (case k19 => k_is)
    (case a20 => k_is)
    (case l20 => k_is)
    (case c20d => k_is)
    (case k20 => k_is)
    (case a21 => k_is)
    (case l21 => k_is)
    (case c21d => k_is)
    (case k21 => k_is)
    (case a22 => k_is)
    (case l22 => k_is)
    (case c22d => k_is)
    (case k22 => k_is)
    (case a23 => k_is)
    (case l23 => k_is)
    (case c23d => k_is)
    (case k23 => k_is)
    (case a24 => k_is)
    (case l24 => k_is)
    (case c24d => k_is)
    (case k24 => k_is)
    (case lc24 => k_is)
    (case vc24 => first | rfl | decide)
    (case hd24 => first | rfl | decide)
    (case np24 => first | rfl | decide)
    (case tp24 => decide)
    (case a25 => k_is)
    (case l25 => k_is)
    (case c25d => k_is)
    (case k25 => k_is)
    (case lc25 => k_is)
    (case vc25 => first | rfl | decide)
    (case hd25 => first | rfl | decide)
    (case np25 => first | rfl | decide)
    (case tp25 => decide)
    (case a26 => k_is)
    (case l26 => k_is)
    (case c26d => k_is)
    (case k26 => k_is)
    (case a27 => k_is)
    (case l27 => k_is)
    (case c27d => k_is)
    (case k27 => k_is)
    (case a28 => k_is)
    (case l28 => k_is)
    (case c28d => k_is)
    (case k28 => k_is)
    (case a29 => k_is)
    (case l29 => k_is)
    (case c29d => k_is)
    (case k29 => k_is)
    (case a30 => k_is)
    (case l30 => k_is)
    (case c30d => k_is)
    (case k30 => k_is)
    (case a31 => k_is)
    (case l31 => k_is)
    (case c31d => k_is)
    (case k31 => k_is)
    (case a32 => k_is)
    (case l32 => k_is)
    (case c32d => k_is)
    (case k32 => k_is)
    (case a33 => k_is)
    (case l33 => k_is)
    (case c33d => k_is)
    (case k33 => k_is)
    (case a34 => k_is)
    (case l34 => k_is)
    (case c34d => k_is)
    (case k34 => k_is)
    (case tn_25_24 => decide)
    (case tn_24_25 => decide)
    (case y_DIGITS => k_is)
    (case y_JOINER => k_is)
    (case y_LETTERS => k_is)
    (case y_MOST_LETTERS => k_is)
    (case y_NOTHING => k_is)
    (case y_RESERVED => k_is)
    (case yl_RESERVED => k_is)
    (case yz_RESERVED => first | rfl | decide +kernel)
    (case ys_RESERVED => first | rfl | decide +kernel)
    (case opq => k_is)
    (case spn => k_is)
    (case top => first | rfl | decide +kernel)
    (case iC_InvalidLine => k_is)
    (case ln_InvalidLine => k_is)
    (case cd_InvalidLine => k_is)
    (case ce_InvalidLine => k_is)
    (case co_InvalidLine => k_is)
    (case vf_InvalidLine => first | rfl | decide +kernel)
    (case pf_InvalidLine => first | rfl | decide +kernel)
    (case eB_InvalidLine => kernel_rfl)
    (case no_InvalidLine_value => kernel_rfl)
    (case iC_InvalidCount => k_is)
    (case ln_InvalidCount => k_is)
    (case cd_InvalidCount => k_is)
    (case ce_InvalidCount => k_is)
    (case co_InvalidCount => k_is)
    (case vf_InvalidCount => first | rfl | decide +kernel)
    (case pf_InvalidCount => first | rfl | decide +kernel)
    (case eB_InvalidCount => kernel_rfl)
    (case no_InvalidCount_value => kernel_rfl)
    (case iC_InvalidSizes => k_is)
    (case ln_InvalidSizes => k_is)
    (case cd_InvalidSizes => k_is)
    (case ce_InvalidSizes => k_is)
    (case co_InvalidSizes => k_is)
    (case vf_InvalidSizes => first | rfl | decide +kernel)
    (case pf_InvalidSizes => first | rfl | decide +kernel)
    (case eB_InvalidSizes => kernel_rfl)
    (case no_InvalidSizes_name => kernel_rfl)
    (case iC_InvalidText => k_is)
    (case ln_InvalidText => k_is)
    (case cd_InvalidText => k_is)
    (case ce_InvalidText => k_is)
    (case co_InvalidText => k_is)
    (case vf_InvalidText => first | rfl | decide +kernel)
    (case pf_InvalidText => first | rfl | decide +kernel)
    (case eB_InvalidText => kernel_rfl)
    (case no_InvalidText_line => kernel_rfl)
    (case rk_InvalidLine => k_is)
    (case rt_InvalidLine => k_is)
    (case rk_InvalidCount => k_is)
    (case rt_InvalidCount => k_is)
    (case rk_InvalidSizes => k_is)
    (case rt_InvalidSizes => k_is)
    (case rk_InvalidText => k_is)
    (case rt_InvalidText => k_is)
    (case rh_InvalidText => k_is)
    (case rh_InvalidLine => k_is)
    (case rh_InvalidCount => k_is)
    (case rh_InvalidSizes => k_is)
    (case sx_InvalidLine_InvalidLine => k_is)
    (case sx_InvalidLine_InvalidCount => k_is)
    (case sx_InvalidLine_InvalidSizes => k_is)
    (case sx_InvalidCount_InvalidLine => k_is)
    (case sx_InvalidCount_InvalidCount => k_is)
    (case sx_InvalidCount_InvalidSizes => k_is)
    (case sx_InvalidSizes_InvalidLine => k_is)
    (case sx_InvalidSizes_InvalidCount => k_is)
    (case sx_InvalidSizes_InvalidSizes => k_is)
    (case sx_InvalidText_InvalidText => k_is)
    (case xf_InvalidLine => kernel_rfl)
    (case xf_InvalidCount => kernel_rfl)
    (case xf_InvalidSizes => kernel_rfl)
    (case xf_InvalidText => kernel_rfl)
    (case no_InvalidLine_name => kernel_rfl)
    (case no_InvalidCount_name => kernel_rfl)
    (case no_InvalidSizes_value => kernel_rfl)
    (case xc_InvalidLine => kernel_rfl)
    (case xc_InvalidCount => kernel_rfl)
    (case xc_InvalidSizes => kernel_rfl)
    (case kt_InvalidLine_InvalidLine => kit_is)
    (case kt_InvalidLine_InvalidCount => kit_is)
    (case kt_InvalidCount_InvalidLine => kit_is)
    (case kt_InvalidCount_InvalidCount => kit_is)
    (case kt_InvalidSizes_InvalidLine => kit_is)
    (case kt_InvalidSizes_InvalidCount => kit_is)
    (case is1 => k_is)
    (case is2 => k_is)
    (case z_abs => k_is)
    (case z_all => k_is)
    (case z_bool => k_is)
    (case z_dict => k_is)
    (case z_divmod => k_is)
    (case z_int => k_is)
    (case z_isinstance => k_is)
    (case z_len => k_is)
    (case z_list => k_is)
    (case z_max => k_is)
    (case z_min => k_is)
    (case z_range => k_is)
    (case z_repr => k_is)
    (case z_sorted => k_is)
    (case z_str => k_is)
    (case z_sum => k_is)
    (case z_tuple => k_is)
    (case z_zip => k_is)
    (case noL => first | rfl | k_is)
